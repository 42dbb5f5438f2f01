import PyProof.Rows.All
import Wide.All
import OpenK.AllK
import Wide.FinOn
import HandS.ForMost
import HandS.Wide
import HandS.WideBits
import HandS.TupAny
import HandS.Deep
import HandS.IsInst
import HandS.Flow
import HandS.SortInts
import HandS.Conv
import KE.BitLaws
import PySem.Challenge.RW_howeverwide_k03_whole_bits
set_option Elab.async false
set_option linter.all false
set_option maxRecDepth 100000
/-! Ev: a denotation of the pure part of Python over trees (PyData), sound for HandS's judgements. -/
namespace Ev
open PySem PySem.Spec L2

/-- shared; a fresh list; a list peeked at; a list of the module's own -/
inductive Md where
  | sh | fr | pk | kk
  deriving DecidableEq
/-- a result: its tree, whether it leans on what was handed in, how its top object stands -/
structure Res where
  d : PyData
  t : Bool
  m : Md
inductive Slot where
  | un
  | val (t : Bool) (d : PyData)
  | own (t : Bool) (xs : List PyData)
  | bor (xs : List PyData)
  /-- a list that is only read (the script) -/
  | ro (xs : List PyData)
  /-- a list of one's own that is lent to calls -/
  | gen (xs : List PyData)
abbrev En := List Slot
inductive Fl where
  | next
  | brk
  | cont
  | ret (r : Res)
abbrev SE := En → Option (Res × En)
abbrev SS := En → Option (Fl × En)
/-- a call's constants: the borrowed list, the heap at the entry without it, what the arguments lean on, what is only read -/
structure Ctx where
  g : Option Addr
  H0 : Hp
  FA : Hp
  R : Hp
  /-- the borrowed list is an argument -/
  lk : Bool := false

def ov (N F : Hp) : Hp := fun a => match N a with
  | some o => some o
  | none => F a
def Ft (C : Ctx) (N : Hp) (t : Bool) : Hp := if t then ov N C.FA else N
def Keep (C : Ctx) (H H' : Hp) : Prop := ∀ a o, H a = some o → C.g ≠ some a → H' a = some o
def nohp : Hp := fun _ => none

/-- the lent list may be another one -/
structure CLe (C C' : Ctx) : Prop where
  h0 : C'.H0 = C.H0
  fa : C'.FA = C.FA
  r : C'.R = C.R
  lk : C'.lk = C.lk
  g : C.lk = true → C'.g = C.g
theorem CLe.refl {C : Ctx} : CLe C C := ⟨rfl, rfl, rfl, rfl, fun _ => rfl⟩
theorem CLe.trans {C C1 C2 : Ctx} (a : CLe C C1) (b : CLe C1 C2) : CLe C C2 := ⟨b.h0.trans a.h0, b.fa.trans a.fa, b.r.trans a.r, b.lk.trans a.lk, fun h => (b.g (a.lk.trans h)).trans (a.g h)⟩
theorem CLe.ft {C C' : Ctx} (a : CLe C C') (N : Hp) (t : Bool) : Ft C' N t = Ft C N t := by unfold Ft; rw [a.fa]

theorem Keep.refl {C : Ctx} {H : Hp} : Keep C H H := fun _ _ h _ => h
theorem Keep.trans {C : Ctx} {H H1 H2 : Hp} (a : Keep C H H1) (b : Keep C H1 H2) : Keep C H H2 := fun c o h hg => b c o (a c o h hg) hg
theorem Keep.of {C : Ctx} {H H1 : Hp} (a : Same H H1) : Keep C H H1 := fun c o h _ => a c o h
theorem same_upd {H : Hp} {p : Addr} {o : HO} (h : H p = none) : Same H (upd H p o) := fun b u e => by
  rw [upd_ne (ne_of_none e h)]; exact e
theorem same_no {H : Hp} : Same nohp H := fun _ _ h => by cases h

theorem rd_same {H H' : Hp} {a : Addr} {u : HO} (e : Same H H') (h : Rd H a u) : Rd H' a u := by
  rcases h with h | ⟨o, h⟩
  · exact .inl (e _ _ h)
  · exact .inr ⟨o, e _ _ h⟩
theorem sqL_same {K : PySem.W.Frag} {H H' : Hp} {a : Addr} {xs : List V} (e : Same H H') (h : SqL K H a xs) : SqL K H' a xs := e.seq h
theorem sqT_same {K : PySem.W.Frag} {H H' : Hp} {a : Addr} {xs : List V} (e : Same H H') (h : SqT K H a xs) : SqT K H' a xs := by
  rcases h with h | h
  · exact .inl (rd_same e h)
  · exact .inr h
mutual
theorem dp_mono {K : PySem.W.Frag} {H H' : Hp} (e : Same H H') : ∀ (d : PyData) (v : V), Dp K H v d → Dp K H' v d
  | .none, _, h => by cases h; exact .non
  | .bool b, _, h => by cases h; exact .bl b
  | .int i, _, h => by cases h; exact .int i
  | .str x, _, h => by cases h; exact .str x
  | .list ds, _, h => by
    cases h with
    | lst hs ha => exact .lst (sqL_same e hs) (dpAll_mono e ds _ ha)
  | .tuple ds, _, h => by
    cases h with
    | tup hs ha => exact .tup (sqT_same e hs) (dpAll_mono e ds _ ha)
  | .dict _, _, h => by cases h
theorem dpAll_mono {K : PySem.W.Frag} {H H' : Hp} (e : Same H H') : ∀ (ds : List PyData) (vs : List V), DpAll K H vs ds → DpAll K H' vs ds
  | [], _, h => by cases h; exact .nil
  | d :: ds, _, h => by
    cases h with
    | cons h1 h2 => exact .cons (dp_mono e d _ h1) (dpAll_mono e ds _ h2)
end
end Ev
namespace L2
open PySem PySem.Spec
theorem DpAll.len {K : PySem.W.Frag} {H : Hp} : ∀ {vs : List V} {ds : List PyData}, DpAll K H vs ds → vs.length = ds.length
  | _, _, .nil => rfl
  | _, _, .cons _ h => by rw [List.length_cons, List.length_cons, DpAll.len h]
theorem DpAll.get {K : PySem.W.Frag} {H : Hp} : ∀ {vs : List V} {ds : List PyData} {i : Nat} {v : V}, DpAll K H vs ds → vs[i]? = some v → ∃ d, ds[i]? = some d ∧ Dp K H v d
  | _, _, _, _, .nil, e => by simp at e
  | _, _, 0, _, .cons r _, e => by simp at e; subst e; exact ⟨_, rfl, r⟩
  | _, _, i + 1, v, .cons _ t, e => by
    obtain ⟨d, h1, h2⟩ := DpAll.get (i := i) (v := v) t (by simpa using e)
    exact ⟨d, by simpa using h1, h2⟩
theorem DpAll.get' {K : PySem.W.Frag} {H : Hp} : ∀ {vs : List V} {ds : List PyData} {i : Nat} {d : PyData}, DpAll K H vs ds → ds[i]? = some d → ∃ v, vs[i]? = some v ∧ Dp K H v d
  | _, _, _, _, .nil, e => by simp at e
  | _, _, 0, _, .cons r _, e => by simp at e; subst e; exact ⟨_, rfl, r⟩
  | _, _, i + 1, d, .cons _ t, e => by
    obtain ⟨v, h1, h2⟩ := DpAll.get' (i := i) (d := d) t (by simpa using e)
    exact ⟨v, by simpa using h1, h2⟩
theorem DpAll.append {K : PySem.W.Frag} {H : Hp} : ∀ {vs ws : List V} {ds es : List PyData}, DpAll K H vs ds → DpAll K H ws es → DpAll K H (vs ++ ws) (ds ++ es)
  | _, _, _, _, .nil, s => s
  | _, _, _, _, .cons r t, s => .cons r (DpAll.append t s)
theorem DpAll.take {K : PySem.W.Frag} {H : Hp} : ∀ {vs : List V} {ds : List PyData} (n : Nat), DpAll K H vs ds → DpAll K H (vs.take n) (ds.take n)
  | _, _, 0, _ => .nil
  | _, _, _ + 1, .nil => .nil
  | _, _, n + 1, .cons r t => .cons r (DpAll.take n t)
theorem DpAll.drop {K : PySem.W.Frag} {H : Hp} : ∀ {vs : List V} {ds : List PyData} (n : Nat), DpAll K H vs ds → DpAll K H (vs.drop n) (ds.drop n)
  | _, _, 0, r => r
  | _, _, _ + 1, .nil => .nil
  | _, _, n + 1, .cons _ t => DpAll.drop n t
theorem DpAll.set {K : PySem.W.Frag} {H : Hp} {v : V} {d : PyData} (r : Dp K H v d) : ∀ {vs : List V} {ds : List PyData} (i : Nat), DpAll K H vs ds → DpAll K H (vs.set i v) (ds.set i d)
  | _, _, _, .nil => .nil
  | _, _, 0, .cons _ t => .cons r t
  | _, _, i + 1, .cons q t => .cons q (DpAll.set r i t)
theorem DpAll.dropLast {K : PySem.W.Frag} {H : Hp} {vs : List V} {ds : List PyData} (h : DpAll K H vs ds) : DpAll K H vs.dropLast ds.dropLast := by
  rw [List.dropLast_eq_take, List.dropLast_eq_take, h.len]
  exact h.take _
theorem DpAll.rep {K : PySem.W.Frag} {H : Hp} {vs : List V} {ds : List PyData} (h : DpAll K H vs ds) : ∀ k : Nat, DpAll K H (List.replicate k vs).flatten (List.replicate k ds).flatten
  | 0 => .nil
  | k + 1 => by
    rw [List.replicate_succ, List.replicate_succ, List.flatten_cons, List.flatten_cons]
    exact h.append (DpAll.rep h k)

end L2
namespace Ev
open PySem PySem.Spec L2

/-- no list, no tuple -/
def sc : PyData → Bool
  | .none | .bool _ | .int _ | .str _ => true
  | _ => false
def scV : PyData → V
  | .bool b => .bl b
  | .int i => .int i
  | .str x => .str x
  | _ => .non
theorem dp_sc {K : PySem.W.Frag} {H H' : Hp} {v : V} {d : PyData} (hs : sc d = true) (h : Dp K H v d) : Dp K H' v d := by
  cases d <;> first | (cases h; first | exact .non | exact .bl _ | exact .int _ | exact .str _) | cases hs
theorem dp_scV {K : PySem.W.Frag} {H : Hp} {d : PyData} (hs : sc d = true) : Dp K H (scV d) d := by
  cases d <;> first | exact .non | exact .bl _ | exact .int _ | exact .str _ | cases hs
theorem dp_sc_eq {K : PySem.W.Frag} {H : Hp} {v : V} {d : PyData} (hs : sc d = true) (h : Dp K H v d) : v = scV d := by
  cases d <;> first | (cases h; rfl) | cases hs
theorem dpAll_sc {K : PySem.W.Frag} {H H' : Hp} : ∀ {vs : List V} {ds : List PyData}, ds.all sc = true → DpAll K H vs ds → DpAll K H' vs ds
  | _, _, _, .nil => .nil
  | _, _, hs, .cons r t => by
    simp only [List.all_cons, Bool.and_eq_true] at hs
    exact .cons (dp_sc hs.1 r) (dpAll_sc hs.2 t)
theorem dpAll_sc_eq {K : PySem.W.Frag} {H : Hp} : ∀ {vs : List V} {ds : List PyData}, ds.all sc = true → DpAll K H vs ds → vs = ds.map scV
  | _, _, _, .nil => rfl
  | _, _, hs, .cons r t => by
    simp only [List.all_cons, Bool.and_eq_true] at hs
    rw [List.map_cons, dp_sc_eq hs.1 r, dpAll_sc_eq hs.2 t]

/-! ### the state -/
def SlotOk (K : PySem.W.Frag) (C : Ctx) (N H : Hp) (o : Option (Option V)) : Slot → Prop
  | .un => True
  | .val t d => ∃ v, o = some (some v) ∧ Dp [] (Ft C N t) v d
  | .own t xs => ∃ a vs, o = some (some (.ref a)) ∧ H a = some (.lst vs) ∧ N a = none ∧ C.H0 a = none ∧ C.g ≠ some a ∧ DpAll [] (Ft C N t) vs xs
  | .bor xs => ∃ a vs, o = some (some (.ref a)) ∧ C.g = some a ∧ H a = some (.lst vs) ∧ DpAll [] nohp vs xs
  | .gen xs => ∃ a vs, o = some (some (.ref a)) ∧ C.g = some a ∧ H a = some (.lst vs) ∧ DpAll [] nohp vs xs
  | .ro xs => ∃ a vs, o = some (some (.ref a)) ∧ SqL K C.R a vs ∧ DpAll [] nohp vs xs
def isOwn : Option Slot → Prop
  | some (.own _ _) => True
  | _ => False
structure EI (K : PySem.W.Frag) (C : Ctx) (N H : Hp) (σ : St) (ρ : En) : Prop where
  h0 : Same C.H0 H
  fa : Same C.FA C.H0
  rs : Same C.R C.H0
  n : Same N H
  nn : ∀ a o, N a = some o → C.H0 a = none
  nf : ∀ a o u, C.FA a ≠ some (.frz o u)
  nz : ∀ a o u, N a ≠ some (.frz o u)
  gg : ∀ g, C.g = some g → C.H0 g = none ∧ N g = none ∧ ∃ xs, H g = some (.lst xs)
  len : ρ.length = σ.length
  sl : ∀ (i : Nat) s, ρ[i]? = some s → SlotOk K C N H σ[i]? s
  ds : ∀ i j : Nat, i ≠ j → isOwn ρ[i]? → isOwn ρ[j]? → σ[i]? ≠ σ[j]?

section
variable {K : PySem.W.Frag} {C : Ctx} {N N' H H' : Hp} {σ : St} {ρ : En}
theorem EI.dis (I : EI K C N H σ ρ) : ∀ a o, N a = some o → C.FA a = none := fun a o h => by
  cases q : C.FA a with
  | none => rfl
  | some u =>
    have := I.fa a u q
    rw [I.nn a o h] at this
    cases this
theorem same_ov_l {N F : Hp} : Same N (ov N F) := fun a o h => by unfold ov; rw [h]
theorem same_ov_r {N F : Hp} (d : ∀ a o, N a = some o → F a = none) : Same F (ov N F) := fun a o h => by
  unfold ov
  cases q : N a with
  | none => exact h
  | some u => rw [d a u q] at h; cases h
theorem EI.ftH (I : EI K C N H σ ρ) (t : Bool) : Same (Ft C N t) H := fun a o h => by
  unfold Ft at h
  cases t with
  | false => exact I.n a o h
  | true =>
    simp only [if_true] at h
    unfold ov at h
    cases q : N a with
    | none => rw [q] at h; exact I.h0 a o (I.fa a o h)
    | some u => rw [q] at h; exact I.n a o (q.trans h)
theorem ft_grow (s : Same N N') (d : ∀ a o, N' a = some o → C.FA a = none) (t : Bool) : Same (Ft C N t) (Ft C N' t) := fun a o h => by
  unfold Ft at h ⊢
  cases t with
  | false => exact s a o h
  | true =>
    simp only [if_true] at h ⊢
    unfold ov at h ⊢
    cases q : N a with
    | some u => rw [q] at h; rw [s a u q]; exact h
    | none =>
      rw [q] at h
      cases q' : N' a with
      | none => exact h
      | some u => rw [d a u q'] at h; cases h
theorem ft_le (d : ∀ a o, N a = some o → C.FA a = none) (t : Bool) : Same N (Ft C N t) := by
  unfold Ft
  cases t with
  | false => exact Same.refl _
  | true => exact same_ov_l
theorem ft_or (d : ∀ a o, N a = some o → C.FA a = none) {t u : Bool} (h : t = true → u = true) : Same (Ft C N t) (Ft C N u) := by
  cases t with
  | false => exact ft_le d u
  | true => rw [h rfl]; exact Same.refl _
theorem EI.ftg (I : EI K C N H σ ρ) {t : Bool} {a : Addr} {o : HO} (h : Ft C N t a = some o) : C.g ≠ some a := fun e => by
  obtain ⟨h1, h2, _⟩ := I.gg a e
  have hf : C.FA a = none := I.fa.free h1
  unfold Ft at h
  cases t with
  | false =>
    simp only [Bool.false_eq_true, if_false] at h
    rw [h2] at h; cases h
  | true =>
    simp only [if_true] at h
    unfold ov at h
    rw [h2] at h
    have h' : C.FA a = some o := h
    rw [hf] at h'; cases h'

/-- the heap grows by an object that no one holds yet -/
theorem EI.tmp (I : EI K C N H σ ρ) {p : Addr} {o : HO} (hp : H p = none) : EI K C N (upd H p o) σ ρ := by
  have s := same_upd (o := o) hp
  refine ⟨I.h0.trans s, I.fa, I.rs, I.n.trans s, I.nn, I.nf, I.nz, fun g e => ?_, I.len, fun i sl e => ?_, I.ds⟩
  · obtain ⟨a, b, xs, c⟩ := I.gg g e
    exact ⟨a, b, xs, s _ _ c⟩
  · have q := I.sl i sl e
    cases sl with
    | un => trivial
    | val t d => exact q
    | own t xs =>
      obtain ⟨a, vs, e1, e2, r⟩ := q
      exact ⟨a, vs, e1, s _ _ e2, r⟩
    | bor xs =>
      obtain ⟨a, vs, e1, e2, e3, r⟩ := q
      exact ⟨a, vs, e1, e2, s _ _ e3, r⟩
    | gen xs =>
      obtain ⟨a, vs, e1, e2, e3, r⟩ := q
      exact ⟨a, vs, e1, e2, s _ _ e3, r⟩
    | ro xs => exact q
/-- an object that no slot owns is laid down among the new ones -/
theorem EI.lay (I : EI K C N H σ ρ) {p : Addr} {o : HO} (hp : H p = some o) (h0 : C.H0 p = none) (hn : N p = none) (hg : C.g ≠ some p) (ho : ∀ i : Nat, isOwn ρ[i]? → σ[i]? ≠ some (some (.ref p))) (hz : ∀ ob u, o ≠ .frz ob u) : EI K C (upd N p o) H σ ρ := by
  have s := same_upd (o := o) hn
  have d : ∀ a u, upd N p o a = some u → C.FA a = none := fun a u e => by
    by_cases h : a = p
    · subst h; exact I.fa.free h0
    · rw [upd_ne h] at e; exact I.dis a u e
  refine ⟨I.h0, I.fa, I.rs, fun a u e => ?_, fun a u e => ?_, I.nf, fun a ob u e => ?_, fun g e => ?_, I.len, fun i sl e => ?_, I.ds⟩
  · by_cases h : a = p
    · subst h; rw [upd_same] at e; cases e; exact hp
    · rw [upd_ne h] at e; exact I.n a u e
  · by_cases h : a = p
    · subst h; exact h0
    · rw [upd_ne h] at e; exact I.nn a u e
  · by_cases h : a = p
    · subst h; rw [upd_same] at e; exact hz ob u (Option.some.inj e)
    · rw [upd_ne h] at e; exact I.nz a ob u e
  · obtain ⟨a, b, c⟩ := I.gg g e
    refine ⟨a, ?_, c⟩
    rw [upd_ne (fun z => hg (by rw [← z]; exact e))]
    exact b
  · have q := I.sl i sl e
    cases sl with
    | un => trivial
    | val t dd =>
      obtain ⟨v, e1, e2⟩ := q
      exact ⟨v, e1, dp_mono (ft_grow s d t) _ _ e2⟩
    | own t xs =>
      obtain ⟨a, vs, e1, e2, e3, e4, e5, e6⟩ := q
      refine ⟨a, vs, e1, e2, ?_, e4, e5, dpAll_mono (ft_grow s d t) _ _ e6⟩
      rw [upd_ne (fun z => ho i (by rw [e]; trivial) (by rw [e1, z]))]
      exact e3
    | bor xs => exact q
    | gen xs => exact q
    | ro xs => exact q
theorem EI.ownNot (I : EI K C N H σ ρ) {p : Addr} (hp : H p = none) : ∀ i : Nat, isOwn ρ[i]? → σ[i]? ≠ some (some (.ref p)) := fun i h z => by
  cases e : ρ[i]? with
  | none => rw [e] at h; exact h
  | some sl =>
    rw [e] at h
    cases sl with
    | own t xs =>
      obtain ⟨a, vs, e1, e2, _⟩ := I.sl i _ e
      rw [z] at e1
      cases e1
      rw [hp] at e2
      cases e2
    | un => exact h
    | val _ _ => exact h
    | bor _ => exact h
    | gen _ => exact h
    | ro _ => exact h
theorem EI.gNot (I : EI K C N H σ ρ) {p : Addr} (hp : H p = none) : C.g ≠ some p := fun e => by
  obtain ⟨_, _, xs, h⟩ := I.gg p e
  rw [hp] at h
  cases h
/-- a new object among the new ones -/
theorem EI.new (I : EI K C N H σ ρ) {p : Addr} {o : HO} (hp : H p = none) (hz : ∀ ob u, o ≠ .frz ob u) : EI K C (upd N p o) (upd H p o) σ ρ := by
  have J := I.tmp (o := o) hp
  refine J.lay upd_same (I.h0.free hp) (I.n.free hp) (I.gNot hp) (fun i h => I.ownNot hp i h) hz
theorem EI.ftz (I : EI K C N H σ ρ) (t : Bool) (a : Addr) (o : Obj) (u : HO) : Ft C N t a ≠ some (.frz o u) := fun h => by
  unfold Ft at h
  cases t with
  | false => exact I.nz a o u h
  | true =>
    simp only [if_true] at h
    unfold ov at h
    cases q : N a with
    | none => rw [q] at h; exact I.nf a o u h
    | some x => rw [q] at h; exact I.nz a o u (q.trans h)
end

/-! ### results -/
theorem sq0 {H : Hp} {a : Addr} {xs : List V} (h : SqL [] H a xs) : Rd H a (.lst xs) := by
  rcases h with h | ⟨o, its, n, h, _⟩
  · exact h
  · cases h
theorem sqT0 {H : Hp} {a : Addr} {xs : List V} (h : SqT [] H a xs) : Rd H a (.tup xs) := by
  rcases h with h | ⟨o, its, n, h, _⟩
  · exact h
  · cases h
mutual
theorem dp_frag {K : PySem.W.Frag} {H : Hp} : ∀ (d : PyData) (v : V), Dp [] H v d → Dp K H v d
  | .none, _, h => by cases h; exact .non
  | .bool b, _, h => by cases h; exact .bl b
  | .int i, _, h => by cases h; exact .int i
  | .str x, _, h => by cases h; exact .str x
  | .list ds, _, h => by
    cases h with
    | lst hs ha => exact .lst (.inl (sq0 hs)) (dpAll_frag ds _ ha)
  | .tuple ds, _, h => by
    cases h with
    | tup hs ha => exact .tup (.inl (sqT0 hs)) (dpAll_frag ds _ ha)
  | .dict _, _, h => by cases h
theorem dpAll_frag {K : PySem.W.Frag} {H : Hp} : ∀ (ds : List PyData) (vs : List V), DpAll [] H vs ds → DpAll K H vs ds
  | [], _, h => by cases h; exact .nil
  | d :: ds, _, h => by
    cases h with
    | cons h1 h2 => exact .cons (dp_frag d _ h1) (dpAll_frag ds _ h2)
end
def RO (K : PySem.W.Frag) (C : Ctx) (N H : Hp) (σ : St) (ρ : En) (r : Res) (v : V) : Prop :=
  match r.m with
  | .sh => Dp [] (Ft C N r.t) v r.d
  | .fr => ∃ a vs ds, r.d = .list ds ∧ v = .ref a ∧ H a = some (.lst vs) ∧ N a = none ∧ C.H0 a = none ∧ C.g ≠ some a ∧ (∀ i : Nat, isOwn ρ[i]? → σ[i]? ≠ some (some (.ref a))) ∧ DpAll [] (Ft C N r.t) vs ds
  | .pk => ∃ a vs ds, r.d = .list ds ∧ v = .ref a ∧ H a = some (.lst vs) ∧ C.g ≠ some a ∧ DpAll [] (Ft C N r.t) vs ds
  | .kk => ∃ a vs ds, r.d = .list ds ∧ v = .ref a ∧ SqL K C.R a vs ∧ DpAll [] nohp vs ds
/-- as an operand: a list that is tracked -/
def RT (C : Ctx) (N H : Hp) (t : Bool) (v : V) : PyData → Prop
  | .list ds => ∃ a vs, v = .ref a ∧ H a = some (.lst vs) ∧ C.g ≠ some a ∧ DpAll [] (Ft C N t) vs ds
  | d => Dp [] (Ft C N t) v d
def RA (K : PySem.W.Frag) (C : Ctx) (N H : Hp) (r : Res) (v : V) : Prop :=
  match r.m with
  | .kk => ∃ a vs ds, r.d = .list ds ∧ v = .ref a ∧ SqL K C.R a vs ∧ DpAll [] nohp vs ds
  | _ => RT C N H r.t v r.d
section
variable {K : PySem.W.Frag} {C : Ctx} {N N' H H' : Hp} {σ : St} {ρ : En} {v : V} {t : Bool}
theorem RA.rt {r : Res} (h : RA K C N H r v) (hm : r.m ≠ .kk) : RT C N H r.t v r.d := by
  obtain ⟨d, t, m⟩ := r
  cases m with
  | kk => exact absurd rfl hm
  | sh => exact h
  | fr => exact h
  | pk => exact h
theorem EI.ra_of (I : EI K C N H σ ρ) {d : PyData} (h : Dp [] (Ft C N t) v d) : RT C N H t v d := by
  cases d with
  | list ds =>
    cases h with
    | lst hs ha =>
      rename_i a xs
      have q := sq0 hs
      rcases q with h | ⟨o, h⟩
      · exact ⟨a, xs, rfl, I.ftH t _ _ h, I.ftg h, ha⟩
      · exact absurd h (I.ftz t _ _ _)
  | none => exact h
  | bool _ => exact h
  | int _ => exact h
  | str _ => exact h
  | tuple _ => exact h
  | dict _ => exact h
theorem EI.ra (I : EI K C N H σ ρ) {r : Res} (h : RO K C N H σ ρ r v) : RA K C N H r v := by
  obtain ⟨d, t, m⟩ := r
  cases m with
  | sh => exact I.ra_of h
  | fr =>
    obtain ⟨a, vs, ds, rfl, e1, e2, _, _, e5, _, e7⟩ := h
    exact ⟨a, vs, e1, e2, e5, e7⟩
  | pk =>
    obtain ⟨a, vs, ds, rfl, e1, e2, e5, e7⟩ := h
    exact ⟨a, vs, e1, e2, e5, e7⟩
  | kk => exact h
theorem RT.keep {d : PyData} (h : RT C N H t v d) (k : Keep C H H') (s : Same N N') (dd : ∀ a o, N' a = some o → C.FA a = none) : RT C N' H' t v d := by
  have m := ft_grow (C := C) s dd t
  cases d with
  | list ds =>
    obtain ⟨a, vs, e, q, g, ha⟩ := h
    exact ⟨a, vs, e, k _ _ q g, g, dpAll_mono m _ _ ha⟩
  | none => exact dp_mono m _ _ h
  | bool _ => exact dp_mono m _ _ h
  | int _ => exact dp_mono m _ _ h
  | str _ => exact dp_mono m _ _ h
  | tuple _ => exact dp_mono m _ _ h
  | dict _ => exact dp_mono m _ _ h
theorem RA.keep {r : Res} (h : RA K C N H r v) (k : Keep C H H') (s : Same N N') (dd : ∀ a o, N' a = some o → C.FA a = none) : RA K C N' H' r v := by
  obtain ⟨d, t, m⟩ := r
  cases m with
  | kk => exact h
  | sh => exact RT.keep (d := d) h k s dd
  | fr => exact RT.keep (d := d) h k s dd
  | pk => exact RT.keep (d := d) h k s dd
theorem RT.dp {d : PyData} (h : RT C N H t v d) (m : Same (Ft C N t) H) : Dp K H v d := by
  cases d with
  | list ds =>
    obtain ⟨a, vs, rfl, q, _, ha⟩ := h
    exact .lst (.inl (.inl q)) (dpAll_frag _ _ (dpAll_mono m _ _ ha))
  | none => exact dp_frag _ _ (dp_mono m _ _ h)
  | bool _ => exact dp_frag _ _ (dp_mono m _ _ h)
  | int _ => exact dp_frag _ _ (dp_mono m _ _ h)
  | str _ => exact dp_frag _ _ (dp_mono m _ _ h)
  | tuple _ => exact dp_frag _ _ (dp_mono m _ _ h)
  | dict _ => exact dp_frag _ _ (dp_mono m _ _ h)
theorem EI.dp (I : EI K C N H σ ρ) {r : Res} (h : RA K C N H r v) : Dp K H v r.d := by
  obtain ⟨d, t, m⟩ := r
  cases m with
  | kk =>
    obtain ⟨a, vs, ds, rfl, rfl, q, ha⟩ := h
    exact .lst (sqL_same (I.rs.trans I.h0) q) (dpAll_frag _ _ (dpAll_mono same_no _ _ ha))
  | sh => exact RT.dp (d := d) h (I.ftH t)
  | fr => exact RT.dp (d := d) h (I.ftH t)
  | pk => exact RT.dp (d := d) h (I.ftH t)
/-- a list operand, top and items -/
theorem EI.lst (I : EI K C N H σ ρ) {r : Res} (h : RA K C N H r v) {ds : List PyData} (e : r.d = .list ds) : ∃ a vs, v = .ref a ∧ SqL K H a vs ∧ DpAll [] (Ft C N r.t) vs ds := by
  obtain ⟨d, t, m⟩ := r
  cases e
  cases m with
  | kk =>
    obtain ⟨a, vs, ds', e, rfl, q, ha⟩ := h
    cases e
    exact ⟨a, vs, rfl, sqL_same (I.rs.trans I.h0) q, dpAll_mono same_no _ _ ha⟩
  | sh => obtain ⟨a, vs, rfl, q, _, ha⟩ := h; exact ⟨a, vs, rfl, .inl (.inl q), ha⟩
  | fr => obtain ⟨a, vs, rfl, q, _, ha⟩ := h; exact ⟨a, vs, rfl, .inl (.inl q), ha⟩
  | pk => obtain ⟨a, vs, rfl, q, _, ha⟩ := h; exact ⟨a, vs, rfl, .inl (.inl q), ha⟩
theorem EI.tup (I : EI K C N H σ ρ) {r : Res} (h : RA K C N H r v) {ds : List PyData} (e : r.d = .tuple ds) : ∃ a vs, v = .ref a ∧ SqT K H a vs ∧ SqT [] (Ft C N r.t) a vs ∧ DpAll [] (Ft C N r.t) vs ds := by
  obtain ⟨d, t, m⟩ := r
  cases e
  have key : Dp [] (Ft C N t) v (.tuple ds) → ∃ a vs, v = .ref a ∧ SqT K H a vs ∧ SqT [] (Ft C N t) a vs ∧ DpAll [] (Ft C N t) vs ds := fun h => by
    cases h with
    | tup hs ha => exact ⟨_, _, rfl, .inl (rd_same (I.ftH t) (sqT0 hs)), hs, ha⟩
  cases m with
  | kk =>
    obtain ⟨a, vs, ds', e, _⟩ := h
    cases e
  | sh => exact key h
  | fr => exact key h
  | pk => exact key h
theorem RA.sc {r : Res} (h : RA K C N H r v) (hs : Ev.sc r.d = true) : v = scV r.d := by
  obtain ⟨d, t, m⟩ := r
  have key : RT C N H t v d → v = scV d := fun h => by
    cases d with
    | none => exact dp_sc_eq (K := []) rfl h
    | bool _ => exact dp_sc_eq (K := []) rfl h
    | int _ => exact dp_sc_eq (K := []) rfl h
    | str _ => exact dp_sc_eq (K := []) rfl h
    | list _ => cases hs
    | tuple _ => cases hs
    | dict _ => cases hs
  cases m with
  | kk =>
    obtain ⟨a, vs, ds', e, _⟩ := h
    simp only at e
    subst e
    cases hs
  | sh => exact key h
  | fr => exact key h
  | pk => exact key h
end

/-! ### readings -/
def Fin (K : PySem.W.Frag) (C : Ctx) (N H : Hp) (σ : St) (ρ : En) (r : Res) (Q : VK) : Prop :=
  ∀ v N' H', EI K C N' H' σ ρ → Keep C H H' → Same N N' → RO K C N' H' σ ρ r v → (r.m = .fr → ∀ a, v = .ref a → H a = none) → Q v H'
/-- what an expression's denotation asks and gives -/
def tF (K : PySem.W.Frag) (s : SE) : TE := fun σ H Q => ∃ C N ρ r ρ', EI K C N H σ ρ ∧ s ρ = some (r, ρ') ∧ Fin K C N H σ ρ' r Q
theorem PE.imp {X : Cx} {e : Expr} {t t' : TE} (h : PE X e t) (i : ∀ σ H Q, t' σ H Q → t σ H Q) : PE X e t' :=
  ⟨fun pins s σ H Q I hw => h.run pins s σ H Q I (i σ H Q hw)⟩
abbrev DE (X : Cx) (e : Expr) (s : SE) : Prop := PE X e (tF X.K s)
section
variable {K : PySem.W.Frag} {C : Ctx} {N N' H H' : Hp} {σ : St} {ρ ρ' : En} {t : Bool} {Q : VK} {d : PyData}
theorem Fin.sc (I : EI K C N H σ ρ) (f : Fin K C N H σ ρ ⟨d, false, .sh⟩ Q) (hs : sc d = true) : Q (scV d) H :=
  f (scV d) N H I .refl (Same.refl _) (dp_scV hs) fun z => nomatch z
theorem Fin.dp (I : EI K C N H σ ρ) {v : V} (f : Fin K C N H σ ρ ⟨d, t, .sh⟩ Q) (h : Dp [] (Ft C N t) v d) : Q v H :=
  f v N H I .refl (Same.refl _) h fun z => nomatch z
theorem Fin.newL (I : EI K C N H σ ρ) {vs : List V} {ds : List PyData} (f : Fin K C N H σ ρ ⟨.list ds, t, .fr⟩ Q) (h : DpAll [] (Ft C N t) vs ds) {p : Addr} (hp : H p = none) : Q (.ref p) (upd H p (.lst vs)) :=
  f (.ref p) N _ (I.tmp hp) (.of (same_upd hp)) (Same.refl _) ⟨p, vs, ds, rfl, rfl, upd_same, I.n.free hp, I.h0.free hp, I.gNot hp, I.ownNot hp, h⟩ fun _ a e => by cases e; exact hp
theorem Fin.newT (I : EI K C N H σ ρ) {vs : List V} {ds : List PyData} (f : Fin K C N H σ ρ ⟨.tuple ds, t, .sh⟩ Q) (h : DpAll [] (Ft C N t) vs ds) {p : Addr} (hp : H p = none) : Q (.ref p) (upd H p (.tup vs)) := by
  have J := I.new (o := .tup vs) hp (fun _ _ z => nomatch z)
  refine f (.ref p) _ _ J (.of (same_upd hp)) (same_upd (I.n.free hp)) ?_ (fun z => nomatch z)
  refine .tup (.inl (.inl ?_)) (dpAll_mono (ft_grow (same_upd (I.n.free hp)) J.dis t) _ _ h)
  exact ft_le J.dis t _ _ upd_same
/-- the rest behind a first part -/
theorem Fin.after {r : Res} {N1 H1 : Hp} (k : Keep C H H1) (s : Same N N1) (f : Fin K C N H σ ρ r Q) : Fin K C N1 H1 σ ρ r Q :=
  fun v N' H' I k' s' h w => f v N' H' I (k.trans k') (s.trans s') h fun e a ea => by
    cases q : H a with
    | none => rfl
    | some o =>
      have hg : C.g ≠ some a := by
        obtain ⟨d, t, m⟩ := r
        cases e
        obtain ⟨b, vs, ds, _, e1, _, _, _, e5, _⟩ := h
        rw [ea] at e1
        cases e1
        exact e5
      have := k a o q hg
      rw [w e a ea] at this
      cases this
end
end Ev
/-! Ev: expressions. -/
namespace Ev
open PySem PySem.Spec L2

def sr (d : PyData) : Option Res := some ⟨d, false, .sh⟩
/-- one operand, two operands -/
def s1 (f : Res → Option Res) (a : SE) : SE := fun ρ => match a ρ with
  | none => none
  | some (x, ρ1) => match f x with
    | none => none
    | some r => some (r, ρ1)
def s2 (f : Res → Res → Option Res) (a b : SE) : SE := fun ρ => match a ρ with
  | none => none
  | some (x, ρ1) => match b ρ1 with
    | none => none
    | some (y, ρ2) => match f x y with
      | none => none
      | some r => some (r, ρ2)
theorem s1_of {f : Res → Option Res} {a : SE} {ρ ρ' : En} {r : Res} (h : s1 f a ρ = some (r, ρ')) : ∃ x, a ρ = some (x, ρ') ∧ f x = some r := by
  unfold s1 at h
  split at h
  · cases h
  · rename_i x ρ1 e
    split at h
    · cases h
    · rename_i r' e2
      cases h
      exact ⟨x, e, e2⟩
theorem s2_of {f : Res → Res → Option Res} {a b : SE} {ρ ρ' : En} {r : Res} (h : s2 f a b ρ = some (r, ρ')) : ∃ x ρ1 y, a ρ = some (x, ρ1) ∧ b ρ1 = some (y, ρ') ∧ f x y = some r := by
  unfold s2 at h
  split at h
  · cases h
  · rename_i x ρ1 e
    split at h
    · cases h
    · rename_i y ρ2 e2
      split at h
      · cases h
      · rename_i r' e3
        cases h
        exact ⟨x, ρ1, y, e, e2, e3⟩

/-- what an operation on values needs of a rule rd of HandS -/
def Ok1 (K : PySem.W.Frag) (f : Res → Option Res) (rd : V → Hp → VK → Prop) : Prop :=
  ∀ C N H σ ρ x v r Q, EI K C N H σ ρ → RA K C N H x v → f x = some r → Fin K C N H σ ρ r Q → rd v H Q
def Ok2 (K : PySem.W.Frag) (f : Res → Res → Option Res) (rd : R2) : Prop :=
  ∀ C N H σ ρ x y v w r Q, EI K C N H σ ρ → RA K C N H x v → RA K C N H y w → f x y = some r → Fin K C N H σ ρ r Q → rd v w H Q
section
variable {X : Cx} {C : Ctx} {a b c : Expr} {sa sb sc' : SE} {pos : Pos}
theorem d_tun {f : Res → Option Res} {rd : V → Hp → VK → Prop} (hf : Ok1 X.K f rd) {σ : St} {H : Hp} {Q : VK} (h : tF X.K (s1 f sa) σ H Q) : tUn rd (tF X.K sa) σ H Q := by
  obtain ⟨C, N, ρ, r, ρ', I, e, fin⟩ := h
  obtain ⟨x, e1, e2⟩ := s1_of e
  exact ⟨C, N, ρ, x, ρ', I, e1, fun v N1 H1 I1 k1 s1 ro nw => hf _ _ _ _ _ _ _ _ _ I1 (I1.ra ro) e2 (fin.after k1 s1)⟩
theorem d_top {f : Res → Res → Option Res} {rd : R2} (hf : Ok2 X.K f rd) {σ : St} {H : Hp} {Q : VK} (h : tF X.K (s2 f sa sb) σ H Q) : tOp rd (tF X.K sa) (tF X.K sb) σ H Q := by
  obtain ⟨C, N, ρ, r, ρ', I, e, fin⟩ := h
  obtain ⟨x, ρ1, y, e1, e2, e3⟩ := s2_of e
  exact ⟨C, N, ρ, x, ρ1, I, e1, fun v N1 H1 I1 k1 s1 ro nw => ⟨C, N1, ρ1, y, ρ', I1, e2, fun w N2 H2 I2 k2 s2 ro2 nw2 => hf _ _ _ _ _ _ _ _ _ _ _ I2 ((I1.ra ro).keep k2 s2 I2.dis) (I2.ra ro2) e3 (fin.after (k1.trans k2) (s1.trans s2))⟩⟩
theorem d_op {op : Operator} {f : Res → Res → Option Res} {rd : R2} (ho : OpR X (binaryOp op) rd) (hf : Ok2 X.K f rd) (ha : DE X a sa) (hb : DE X b sb) : DE X (.BinOp a op b pos) (s2 f sa sb) :=
  PE.imp (pe_op ho ha hb) fun _ _ _ h => d_top hf h
theorem d_un {op : UnaryOp} {f : Res → Option Res} {rd : V → Hp → VK → Prop} (ho : UnR X (unaryOp op) rd) (hf : Ok1 X.K f rd) (ha : DE X a sa) : DE X (.UnaryOp op a pos) (s1 f sa) :=
  PE.imp (pe_un ho ha) fun _ _ _ h => d_tun hf h
theorem d_cmp {op : CmpOp} {f : Res → Res → Option Res} {rd : R2} (ho : OpR X (compareOp op) rd) (hf : Ok2 X.K f rd) (ha : DE X a sa) (hb : DE X b sb) (hm : behindInMarks op b = false) : DE X (.Compare a [op] [b] pos) (s2 f sa sb) :=
  PE.imp (pe_cmpR ho ha hb hm) fun _ _ _ h => d_top hf h
end

/-! ### the operations on data -/
def fI (g : Int → Int → Int) : Res → Res → Option Res := fun x y => match x.d, y.d with
  | .int i, .int j => sr (.int (g i j))
  | _, _ => none
def fIc (c : Int → Int → Bool) (g : Int → Int → Int) : Res → Res → Option Res := fun x y => match x.d, y.d with
  | .int i, .int j => if c i j then sr (.int (g i j)) else none
  | _, _ => none
def fAdd : Res → Res → Option Res := fun x y => match x.d, y.d with
  | .int i, .int j => sr (.int (i + j))
  | .str a, .str b => if a.length + b.length ≤ sizeLine then sr (.str (a ++ b)) else none
  | .list xs, .list ys => if x.m ≠ .kk ∧ y.m ≠ .kk ∧ xs.length + ys.length ≤ sizeLine then some ⟨.list (xs ++ ys), x.t || y.t, .fr⟩ else none
  | .tuple xs, .tuple ys => if xs.length + ys.length ≤ sizeLine then some ⟨.tuple (xs ++ ys), x.t || y.t, .sh⟩ else none
  | _, _ => none
abbrev fSub : Res → Res → Option Res := fI fun i j => i - j
def mulC (i j : Int) : Bool := decide (Builtin.Int.intBits i + Builtin.Int.intBits j ≤ 134217728)
def fMul : Res → Res → Option Res := fun x y => match x.d, y.d with
  | .int i, .int j => if mulC i j then sr (.int (i * j)) else none
  | .list xs, .int k => if x.m ≠ .kk ∧ -(2 ^ 63) ≤ k ∧ k < 2 ^ 63 ∧ xs.length * k.toNat ≤ sizeLine then some ⟨.list (List.replicate k.toNat xs).flatten, x.t, .fr⟩ else none
  | _, _ => none
abbrev fFdiv : Res → Res → Option Res := fIc (fun _ j => decide (0 < j ∧ j.natAbs.log2 < 9000)) fun i j => i / j
abbrev fMod : Res → Res → Option Res := fIc (fun _ j => decide (0 < j)) fun i j => i % j
abbrev fPow : Res → Res → Option Res := fIc (fun i j => decide (0 ≤ j ∧ (Builtin.Int.intBits i : Int) * j ≤ 2 ^ 27)) fun i j => i ^ j.toNat
abbrev fShl : Res → Res → Option Res := fIc (fun i j => decide (0 ≤ j ∧ (Builtin.Int.intBits i : Int) + j ≤ 2 ^ 27)) fun i j => i * 2 ^ j.toNat
abbrev fShr : Res → Res → Option Res := fIc (fun _ j => decide (0 ≤ j)) fun i j => i / 2 ^ j.toNat
abbrev fAnd : Res → Res → Option Res := fI Builtin.bitAnd
abbrev fOr : Res → Res → Option Res := fI Builtin.bitOr
abbrev fXor : Res → Res → Option Res := fI Builtin.bitXor
def fEq : Res → Res → Option Res := fun x y => if SeqAt.shaped x.d && SeqAt.shaped y.d then sr (.bool (PyData.eqv x.d y.d)) else none
def fNe : Res → Res → Option Res := fun x y => if SeqAt.shaped x.d && SeqAt.shaped y.d then sr (.bool (!PyData.eqv x.d y.d)) else none
def fCmp (p : Int → Int → Bool) : Res → Res → Option Res := fun x y => match x.d, y.d with
  | .int i, .int j => sr (.bool (p i j))
  | _, _ => none
abbrev fLt := fCmp fun i j => decide (i < j)
abbrev fLe := fCmp fun i j => decide (i ≤ j)
abbrev fGt := fCmp fun i j => decide (j < i)
abbrev fGe := fCmp fun i j => decide (j ≤ i)
def fIn : Res → Res → Option Res := fun x y => match y.d with
  | .list ds => if SeqAt.shaped x.d && SeqAt.shaped (.list ds) then sr (.bool (ds.any fun z => PyData.eqv z x.d)) else none
  | _ => none
def fNotIn : Res → Res → Option Res := fun x y => match y.d with
  | .list ds => if SeqAt.shaped x.d && SeqAt.shaped (.list ds) then sr (.bool (!ds.any fun z => PyData.eqv z x.d)) else none
  | _ => none
def fIsN : Res → Res → Option Res := fun x y => match y.d, x.d with
  | .none, .none => sr (.bool true)
  | .none, _ => sr (.bool false)
  | _, _ => none
def fNotN : Res → Res → Option Res := fun x y => match y.d, x.d with
  | .none, .none => sr (.bool false)
  | .none, _ => sr (.bool true)
  | _, _ => none
def fNeg : Res → Option Res := fun x => match x.d with
  | .int i => sr (.int (-i))
  | _ => none

section
variable {X : Cx} {C : Ctx}
theorem ra_int {K : PySem.W.Frag} {N H : Hp} {r : Res} {v : V} {i : Int} (h : RA K C N H r v) (e : r.d = .int i) : v = .int i := by rw [h.sc (by rw [e]; rfl), e]; rfl
theorem ra_str {K : PySem.W.Frag} {N H : Hp} {r : Res} {v : V} {i : Str} (h : RA K C N H r v) (e : r.d = .str i) : v = .str i := by rw [h.sc (by rw [e]; rfl), e]; rfl
theorem ra_bl {K : PySem.W.Frag} {N H : Hp} {r : Res} {v : V} {i : Bool} (h : RA K C N H r v) (e : r.d = .bool i) : v = .bl i := by rw [h.sc (by rw [e]; rfl), e]; rfl
theorem ra_non {K : PySem.W.Frag} {N H : Hp} {r : Res} {v : V} (h : RA K C N H r v) (e : r.d = .none) : v = .non := by rw [h.sc (by rw [e]; rfl), e]; rfl
theorem ok_I {g : Int → Int → Int} : Ok2 X.K (fI g) (rI0 fun i j => .int (g i j)) := by
  intro C N H σ ρ x y v w r Q I hx hy e fin
  obtain ⟨xd, xt, xm⟩ := x
  obtain ⟨yd, yt, ym⟩ := y
  simp only [fI] at e
  split at e
  · rename_i i j
    cases e
    rw [ra_int hx rfl, ra_int hy rfl]
    exact ⟨i, j, rfl, rfl, fin.sc I rfl⟩
  · cases e
theorem ok_Ic {c : Int → Int → Bool} {g : Int → Int → Int} {CC : Int → Int → Prop} (hc : ∀ i j, c i j = true → CC i j) : Ok2 X.K (fIc c g) (rI CC fun i j => .int (g i j)) := by
  intro C N H σ ρ x y v w r Q I hx hy e fin
  obtain ⟨xd, xt, xm⟩ := x
  obtain ⟨yd, yt, ym⟩ := y
  simp only [fIc] at e
  split at e
  · rename_i i j
    split at e
    · rename_i hcc
      cases e
      rw [ra_int hx rfl, ra_int hy rfl]
      exact ⟨i, j, rfl, rfl, hc _ _ hcc, fin.sc I rfl⟩
    · cases e
  · cases e
theorem ok_cmp {p : Int → Int → Bool} : Ok2 X.K (fCmp p) (rI0 fun i j => .bl (p i j)) := by
  intro C N H σ ρ x y v w r Q I hx hy e fin
  obtain ⟨xd, xt, xm⟩ := x
  obtain ⟨yd, yt, ym⟩ := y
  simp only [fCmp] at e
  split at e
  · rename_i i j
    cases e
    rw [ra_int hx rfl, ra_int hy rfl]
    exact ⟨i, j, rfl, rfl, fin.sc I rfl⟩
  · cases e
theorem RT.l {N H : Hp} {t : Bool} {v : V} {ds : List PyData} (h : RT C N H t v (.list ds)) : ∃ a vs, v = .ref a ∧ H a = some (.lst vs) ∧ C.g ≠ some a ∧ DpAll [] (Ft C N t) vs ds := h
def rAddS (K : PySem.W.Frag) : R2 := fun x y H Q => (rI0 (fun i j => .int (i + j)) x y H Q ∨ ∃ i j, x = .str i ∧ y = .str j ∧ i.length + j.length ≤ sizeLine ∧ Q (.str (i ++ j)) H) ∨ rCat x y H Q ∨ rCatA K x y H Q
theorem op_addS : OpR X (binaryOp .Add) (rAddS X.K) := (op_add.or op_add_str).or (op_cat.or op_catA)
theorem ok_add : Ok2 X.K fAdd (rAddS X.K) := by
  intro C N H σ ρ x y v w r Q I hx hy e fin
  unfold fAdd at e
  split at e
  · rename_i i j e1 e2
    cases e
    exact .inl (.inl ⟨i, j, ra_int hx e1, ra_int hy e2, fin.sc I rfl⟩)
  · rename_i a b e1 e2
    split at e
    · rename_i hz
      cases e
      exact .inl (.inr ⟨a, b, ra_str hx e1, ra_str hy e2, hz, fin.sc I rfl⟩)
    · cases e
  · rename_i xs ys e1 e2
    split at e
    · rename_i hz
      cases e
      have qx := hx.rt hz.1
      have qy := hy.rt hz.2.1
      rw [e1] at qx
      rw [e2] at qy
      obtain ⟨a, vs, e3, r1, _, a1⟩ := qx.l
      obtain ⟨b, ws, e4, r2, _, a2⟩ := qy.l
      refine .inr (.inl ⟨a, b, vs, ws, e3, e4, r1, r2, by rw [a1.len, a2.len]; exact hz.2.2, fun p hp => fin.newL I ?_ hp⟩)
      exact (dpAll_mono (ft_or I.dis (fun z => by rw [z]; rfl)) _ _ a1).append (dpAll_mono (ft_or I.dis (fun z => by rw [z]; exact Bool.or_true _)) _ _ a2)
    · cases e
  · rename_i xs ys e1 e2
    split at e
    · rename_i hz
      cases e
      obtain ⟨a, vs, e3, q1, s1, a1⟩ := I.tup hx e1
      obtain ⟨b, ws, e4, q2, s2, a2⟩ := I.tup hy e2
      have m1 := ft_or (C := C) (t := x.t) (u := x.t || y.t) I.dis (fun z => by rw [z]; rfl)
      have m2 := ft_or (C := C) (t := y.t) (u := x.t || y.t) I.dis (fun z => by rw [z]; exact Bool.or_true _)
      have b1 := dpAll_mono m1 _ _ a1
      have b2 := dpAll_mono m2 _ _ a2
      refine .inr (.inr ⟨a, b, vs, ws, e3, e4, q1, q2, by rw [a1.len, a2.len]; exact hz, fun z => ?_, fun z1 z2 => ?_, fun _ _ p hp => fin.newT I (b1.append b2) hp⟩)
      · subst z
        cases a1
        exact fin.dp I (.tup (sqT_same m2 s2) b2)
      · subst z2
        cases a2
        rw [List.append_nil] at fin
        exact fin.dp I (.tup (sqT_same m1 s1) b1)
    · cases e
  · cases e
def rMulS : R2 := fun x y H Q => rI CMulX (fun i j => .int (i * j)) x y H Q ∨ rRep x y H Q
theorem op_mulS : OpR X (binaryOp .Mult) rMulS := op_mulX.or op_rep
theorem ok_mul : Ok2 X.K fMul rMulS := by
  intro C N H σ ρ x y v w r Q I hx hy e fin
  unfold fMul at e
  split at e
  · rename_i i j e1 e2
    split at e
    · rename_i hc
      cases e
      refine .inl ⟨i, j, ra_int hx e1, ra_int hy e2, ?_, fin.sc I rfl⟩
      have := of_decide_eq_true hc
      unfold CMulX
      omega
    · cases e
  · rename_i xs k e1 e2
    split at e
    · rename_i hz
      cases e
      have qx := hx.rt hz.1
      rw [e1] at qx
      obtain ⟨a, vs, e3, r1, _, a1⟩ := qx.l
      exact .inr ⟨a, k, vs, e3, ra_int hy e2, r1, hz.2.1, hz.2.2.1, by rw [a1.len]; exact hz.2.2.2, fun p hp => fin.newL I (a1.rep _) hp⟩
    · cases e
  · cases e
theorem op_powS : OpR X (binaryOp .Pow) (rI (fun i j => 0 ≤ j ∧ (Builtin.Int.intBits i : Int) * j ≤ 2 ^ 27) fun i j => .int (i ^ j.toNat)) := opI fun _ _ _ _ _ _ _ hc q => PyProof.Rows.pow_int hc.1 hc.2 q
theorem ok_fdiv : Ok2 X.K fFdiv (rI CDivW fun i j => .int (i / j)) := ok_Ic fun i j h => (of_decide_eq_true h : 0 < j ∧ j.natAbs.log2 < 9000)
theorem ok_mod : Ok2 X.K fMod (rI (fun _ j => 0 < j) fun i j => .int (i % j)) := ok_Ic fun _ _ h => of_decide_eq_true h
theorem ok_pow : Ok2 X.K fPow (rI (fun i j => 0 ≤ j ∧ (Builtin.Int.intBits i : Int) * j ≤ 2 ^ 27) fun i j => .int (i ^ j.toNat)) := ok_Ic fun _ _ h => of_decide_eq_true h
theorem ok_shl : Ok2 X.K fShl (rI CShl fun i j => .int (i * 2 ^ j.toNat)) := ok_Ic fun i j h => (of_decide_eq_true h : 0 ≤ j ∧ (Builtin.Int.intBits i : Int) + j ≤ 2 ^ 27)
theorem ok_shr : Ok2 X.K fShr (rI (fun _ j => 0 ≤ j) fun i j => .int (i / 2 ^ j.toNat)) := ok_Ic fun _ _ h => of_decide_eq_true h
theorem ok_eq : Ok2 X.K fEq (rEqD X.K) := by
  intro C N H σ ρ x y v w r Q I hx hy e fin
  unfold fEq at e
  split at e
  · rename_i hs
    cases e
    rw [Bool.and_eq_true] at hs
    exact ⟨_, _, I.dp hx, I.dp hy, hs.1, hs.2, fin.sc I rfl⟩
  · cases e
theorem ok_ne : Ok2 X.K fNe (rNeD X.K) := by
  intro C N H σ ρ x y v w r Q I hx hy e fin
  unfold fNe at e
  split at e
  · rename_i hs
    cases e
    rw [Bool.and_eq_true] at hs
    exact ⟨_, _, I.dp hx, I.dp hy, hs.1, hs.2, fin.sc I rfl⟩
  · cases e
theorem ok_in : Ok2 X.K fIn (rInD X.K) := by
  intro C N H σ ρ x y v w r Q I hx hy e fin
  unfold fIn at e
  split at e
  · rename_i ds e1
    split at e
    · rename_i hs
      cases e
      rw [Bool.and_eq_true] at hs
      have q := I.dp hy
      rw [e1] at q
      exact ⟨_, _, I.dp hx, q, hs.1, hs.2, fin.sc I rfl⟩
    · cases e
  · cases e
theorem ok_notIn : Ok2 X.K fNotIn (rNotInD X.K) := by
  intro C N H σ ρ x y v w r Q I hx hy e fin
  unfold fNotIn at e
  split at e
  · rename_i ds e1
    split at e
    · rename_i hs
      cases e
      rw [Bool.and_eq_true] at hs
      have q := I.dp hy
      rw [e1] at q
      exact ⟨_, _, I.dp hx, q, hs.1, hs.2, fin.sc I rfl⟩
    · cases e
  · cases e
theorem ra_ref {K : PySem.W.Frag} {N H : Hp} {σ : St} {ρ : En} {r : Res} {v : V} (I : EI K C N H σ ρ) (h : RA K C N H r v) (e : r.d ≠ .none) : v ≠ .non := by
  intro z
  subst z
  have q := I.dp h
  generalize r.d = d at e q
  cases q
  exact e rfl
theorem ok_isN : Ok2 X.K fIsN (fun x y H Q => y = .non ∧ Q (.bl (decide (x = .non))) H) := by
  intro C N H σ ρ x y v w r Q I hx hy e fin
  unfold fIsN at e
  split at e
  · rename_i e1 e2
    cases e
    have e3 := ra_non hx e2
    subst e3
    exact ⟨ra_non hy e1, by simpa [scV] using fin.sc I rfl⟩
  · rename_i e1 e2
    cases e
    have e3 : v ≠ .non := ra_ref I hx e2
    exact ⟨ra_non hy e1, by rw [decide_eq_false e3]; exact fin.sc I rfl⟩
  · cases e
theorem ok_notN : Ok2 X.K fNotN (fun x y H Q => y = .non ∧ Q (.bl (!decide (x = .non))) H) := by
  intro C N H σ ρ x y v w r Q I hx hy e fin
  unfold fNotN at e
  split at e
  · rename_i e1 e2
    cases e
    have e3 := ra_non hx e2
    subst e3
    exact ⟨ra_non hy e1, by simpa [scV] using fin.sc I rfl⟩
  · rename_i e1 e2
    cases e
    have e3 : v ≠ .non := ra_ref I hx e2
    exact ⟨ra_non hy e1, by rw [decide_eq_false e3]; exact fin.sc I rfl⟩
  · cases e
theorem ok_neg : Ok1 X.K fNeg (rU fun i => .int (-i)) := by
  intro C N H σ ρ x v r Q I hx e fin
  unfold fNeg at e
  split at e
  · rename_i i e1
    cases e
    exact ⟨i, ra_int hx e1, fin.sc I rfl⟩
  · cases e
end
end Ev
/-! Ev: names, constants, displays, tests, subscripts. -/
namespace Ev
open PySem PySem.Spec L2

/-! ### constants, names -/
def sLit (d : PyData) : SE := fun ρ => some (⟨d, false, .sh⟩, ρ)
def sVar (i : Nat) : SE := fun ρ => match ρ[i]? with
  | some (.val t d) => some (⟨d, t, .sh⟩, ρ)
  | some (.own t xs) => some (⟨.list xs, t, .pk⟩, ρ)
  | some (.ro xs) => some (⟨.list xs, false, .kk⟩, ρ)
  | _ => none
def sVarF (i : Nat) : SE := fun ρ => match ρ[i]? with
  | some (.val t d) => some (⟨d, t, .sh⟩, ρ)
  | some (.own t xs) => some (⟨.list xs, t, .sh⟩, ρ.set i (.val t (.list xs)))
  | _ => none
def sGlobL (ds : List PyData) : SE := fun ρ => some (⟨.list ds, false, .kk⟩, ρ)
section
variable {X : Cx} {C : Ctx} {pos : Pos}
theorem d_lit {e : Expr} {d : PyData} (h : PE X e (tC (scV d))) (hs : sc d = true) : DE X e (sLit d) := PE.imp h fun σ H Q ⟨C, N, ρ, r, ρ', I, e, fin⟩ => by
  cases e
  exact fin.sc I hs
theorem d_int {i j} : DE X (.Constant (.int i) j pos) (sLit (.int i)) := d_lit pe_int rfl
theorem d_bl {i j} : DE X (.Constant (.bool i) j pos) (sLit (.bool i)) := d_lit pe_bl rfl
theorem d_str {i j} : DE X (.Constant (.str i) j pos) (sLit (.str i)) := d_lit pe_str rfl
theorem d_non {j} : DE X (.Constant .none j pos) (sLit .none) := d_lit pe_non rfl
theorem d_globI {x : Str} {i : Int} {t : Tok} (hg : Gl X x) (hm : X.mg x = some (.int i t)) (hd : (x == ("__debug__" : Str)) = false := by decide) : DE X (.Name x pos) (sLit (.int i)) := d_lit (pe_glob hg hm ⟨_, rfl⟩ hd) rfl
theorem d_globS {x : Str} {i : Str} {t : Tok} (hg : Gl X x) (hm : X.mg x = some (.str i t)) (hd : (x == ("__debug__" : Str)) = false := by decide) : DE X (.Name x pos) (sLit (.str i)) := d_lit (pe_glob hg hm ⟨_, rfl⟩ hd) rfl
theorem d_globL {x : Str} {a : Addr} {vs : List V} {ds : List PyData} (hg : Gl X x) (hm : X.mg x = some (.ref a)) (hs : SqL X.K nohp a vs) (hd : DpAll [] nohp vs ds) (hdd : (x == ("__debug__" : Str)) = false := by decide) : DE X (.Name x pos) (sGlobL ds) :=
  PE.imp (pe_glob (v := .ref a) hg hm rfl hdd) fun σ H Q ⟨C, N, ρ, r, ρ', I, e, fin⟩ => by
    cases e
    exact fin _ N H I .refl (Same.refl _) ⟨a, vs, ds, rfl, rfl, sqL_same same_no hs, hd⟩ (fun z => nomatch z)
theorem d_var {e : Expr} {i : Nat} (h : PE X e (tVar i)) : DE X e (sVar i) := PE.imp h fun σ H Q ⟨C, N, ρ, r, ρ', I, e, fin⟩ => by
  unfold sVar at e
  cases q : ρ[i]? with
  | none => rw [q] at e; cases e
  | some sl =>
    rw [q] at e
    have z := I.sl i sl q
    cases sl with
    | un => cases e
    | bor _ => cases e
    | gen _ => cases e
    | val t d =>
      cases e
      obtain ⟨v, e1, e2⟩ := z
      exact ⟨v, e1, fin.dp I e2⟩
    | own t xs =>
      cases e
      obtain ⟨a, vs, e1, e2, e3, e4, e5, e6⟩ := z
      exact ⟨_, e1, fin _ N H I .refl (Same.refl _) ⟨a, vs, xs, rfl, rfl, e2, e5, e6⟩ (fun z => nomatch z)⟩
    | ro xs =>
      cases e
      obtain ⟨a, vs, e1, e2, e3⟩ := z
      exact ⟨_, e1, fin _ N H I .refl (Same.refl _) ⟨a, vs, xs, rfl, rfl, e2, e3⟩ (fun z => nomatch z)⟩
end
section
variable {K : PySem.W.Frag} {C : Ctx} {N N' H H' : Hp} {σ : St} {ρ : En}
/-- what a slot owned is shared from now on -/
theorem EI.share (I : EI K C N H σ ρ) {i : Nat} {t : Bool} {xs : List PyData} (q : ρ[i]? = some (.own t xs)) : ∃ a vs, σ[i]? = some (some (.ref a)) ∧ EI K C (upd N a (.lst vs)) H σ (ρ.set i (.val t (.list xs))) ∧ Same N (upd N a (.lst vs)) ∧
    Dp [] (Ft C (upd N a (.lst vs)) t) (.ref a) (.list xs) := by
  obtain ⟨a, vs, e1, e2, e3, e4, e5, e6⟩ := I.sl i _ q
  have s := same_upd (o := .lst vs) e3
  have hi : i < ρ.length := (List.getElem?_eq_some_iff.mp q).1
  have d : ∀ b u, upd N a (.lst vs) b = some u → C.FA b = none := fun b u e => by
    by_cases h : b = a
    · subst h; exact I.fa.free e4
    · rw [upd_ne h] at e; exact I.dis b u e
  have dp : Dp [] (Ft C (upd N a (.lst vs)) t) (.ref a) (.list xs) := .lst (.inl (.inl (ft_le d t _ _ upd_same))) (dpAll_mono (ft_grow s d t) _ _ e6)
  have other : ∀ (j : Nat) sl, j ≠ i → ρ[j]? = some sl → isOwn (some sl) → σ[j]? ≠ some (some (.ref a)) := fun j sl hj e ho z => by
    refine I.ds j i hj (by rw [e]; exact ho) (by rw [q]; trivial) (by rw [z, e1])
  refine ⟨a, vs, e1, ⟨I.h0, I.fa, I.rs, fun b u e => ?_, fun b u e => ?_, I.nf, fun b ob u e => ?_, fun g e => ?_, by rw [List.length_set]; exact I.len, fun j sl e => ?_, fun j k hjk hj hk => ?_⟩, s, dp⟩
  · by_cases h : b = a
    · subst h; rw [upd_same] at e; cases e; exact e2
    · rw [upd_ne h] at e; exact I.n b u e
  · by_cases h : b = a
    · subst h; exact e4
    · rw [upd_ne h] at e; exact I.nn b u e
  · by_cases h : b = a
    · subst h; rw [upd_same] at e; cases e
    · rw [upd_ne h] at e; exact I.nz b ob u e
  · obtain ⟨p1, p2, p3⟩ := I.gg g e
    refine ⟨p1, ?_, p3⟩
    rw [upd_ne (fun z => e5 (by rw [← z]; exact e))]
    exact p2
  · by_cases hj : j = i
    · subst hj
      rw [List.getElem?_set_self hi] at e
      cases e
      exact ⟨_, e1, dp⟩
    · rw [List.getElem?_set_ne (Ne.symm hj)] at e
      have z := I.sl j sl e
      cases sl with
      | un => trivial
      | val t' dd =>
        obtain ⟨v, z1, z2⟩ := z
        exact ⟨v, z1, dp_mono (ft_grow s d t') _ _ z2⟩
      | own t' ys =>
        obtain ⟨b, ws, z1, z2, z3, z4, z5, z6⟩ := z
        refine ⟨b, ws, z1, z2, ?_, z4, z5, dpAll_mono (ft_grow s d t') _ _ z6⟩
        rw [upd_ne (fun y => other j _ hj e trivial (by rw [z1, y]))]
        exact z3
      | bor ys => exact z
      | gen ys => exact z
      | ro ys => exact z
  · have step : ∀ m : Nat, isOwn (ρ.set i (.val t (.list xs)))[m]? → isOwn ρ[m]? := fun m hm => by
      by_cases h : m = i
      · subst h
        rw [List.getElem?_set_self hi] at hm
        exact hm.elim
      · rw [List.getElem?_set_ne (Ne.symm h)] at hm
        exact hm
    exact I.ds j k hjk (step j hj) (step k hk)
/-- a result is put among the shared ones -/
theorem EI.frz (I : EI K C N H σ ρ) {r : Res} {v : V} (h : RO K C N H σ ρ r v) (hm : r.m = .sh ∨ r.m = .fr) : ∃ N', EI K C N' H σ ρ ∧ Same N N' ∧ Dp [] (Ft C N' r.t) v r.d := by
  obtain ⟨d, t, m⟩ := r
  rcases hm with e | e
  · simp only at e
    subst e
    exact ⟨N, I, Same.refl _, h⟩
  · simp only at e
    subst e
    obtain ⟨a, vs, ds, e1, rfl, e2, e3, e4, e5, e6, e7⟩ := h
    simp only at e1
    subst e1
    have J := I.lay e2 e4 e3 e5 e6 (fun _ _ z => nomatch z)
    have s := same_upd (o := .lst vs) e3
    exact ⟨_, J, s, .lst (.inl (.inl (ft_le J.dis t _ _ upd_same))) (dpAll_mono (ft_grow s J.dis t) _ _ e7)⟩
end
section
variable {X : Cx} {C : Ctx} {pos : Pos}
theorem d_varF {e : Expr} {i : Nat} (h : PE X e (tVar i)) : DE X e (sVarF i) := PE.imp h fun σ H Q ⟨C, N, ρ, r, ρ', I, e, fin⟩ => by
  unfold sVarF at e
  cases q : ρ[i]? with
  | none => rw [q] at e; cases e
  | some sl =>
    rw [q] at e
    cases sl with
    | un => cases e
    | bor _ => cases e
    | gen _ => cases e
    | ro _ => cases e
    | val t d =>
      cases e
      obtain ⟨v, e1, e2⟩ := I.sl i _ q
      exact ⟨v, e1, fin.dp I e2⟩
    | own t xs =>
      cases e
      obtain ⟨a, vs, e1, J, s, dp⟩ := I.share q
      exact ⟨_, e1, fin _ _ H J .refl s dp (fun z => nomatch z)⟩
end

/-! ### lists of expressions -/
abbrev SA := En → Option (List PyData × Bool × En)
def okm : Md → Bool
  | .sh | .fr => true
  | _ => false
def sANil : SA := fun ρ => some ([], false, ρ)
def sACons (s : SE) (sa : SA) : SA := fun ρ => match s ρ with
  | none => none
  | some (r, ρ1) => if okm r.m then match sa ρ1 with
    | none => none
    | some (ds, t, ρ2) => some (r.d :: ds, (r.t && !sc r.d) || t, ρ2) else none
def tA (K : PySem.W.Frag) (s : SA) : TA := fun σ H Q => ∃ C N ρ ds t ρ', EI K C N H σ ρ ∧ s ρ = some (ds, t, ρ') ∧
  ∀ vs N' H', EI K C N' H' σ ρ' → Keep C H H' → Same N N' → DpAll [] (Ft C N' t) vs ds → Q vs H'
theorem PA.imp {X : Cx} {e : List Expr} {t t' : TA} (h : PA X e t) (i : ∀ σ H Q, t' σ H Q → t σ H Q) : PA X e t' :=
  ⟨fun pos pins s σ H Q I hw => h.run pos pins s σ H Q I (i σ H Q hw)⟩
abbrev DA (X : Cx) (e : List Expr) (s : SA) : Prop := PA X e (tA X.K s)
section
variable {X : Cx} {C : Ctx} {pos : Pos} {e : Expr} {es : List Expr} {s : SE} {sa : SA}
theorem da_nil : DA X [] sANil := PA.imp pa_nil fun σ H Q ⟨C, N, ρ, ds, t, ρ', I, e, fin⟩ => by
  cases e
  exact fin [] N H I .refl (Same.refl _) .nil
theorem da_t {σ : St} {H : Hp} {Q : List V → Hp → Prop} (h : tA X.K (sACons s sa) σ H Q) : tCons (tF X.K s) (tA X.K sa) σ H Q := by
  obtain ⟨C, N, ρ, ds, t, ρ', I, e, fin⟩ := h
  unfold sACons at e
  cases e1 : s ρ with
  | none => rw [e1] at e; cases e
  | some p =>
    obtain ⟨r, ρ1⟩ := p
    rw [e1] at e
    simp only at e
    cases hm : okm r.m with
    | false => rw [hm] at e; cases e
    | true =>
      rw [hm] at e
      simp only [if_true] at e
      cases e2 : sa ρ1 with
      | none => rw [e2] at e; cases e
      | some p2 =>
        obtain ⟨ds2, t2, ρ2⟩ := p2
        rw [e2] at e
        cases e
        refine ⟨C, N, ρ, r, ρ1, I, e1, fun v N1 H1 I1 k1 s1 ro nw => ?_⟩
        obtain ⟨N2, I2, s2, dp⟩ := I1.frz ro (by
          cases m : r.m with
          | sh => exact .inl rfl
          | fr => exact .inr rfl
          | pk => rw [m] at hm; cases hm
          | kk => rw [m] at hm; cases hm)
        refine ⟨C, N2, ρ1, ds2, t2, _, I2, e2, fun vs N3 H3 I3 k3 s3 dpa => ?_⟩
        refine fin (v :: vs) N3 H3 I3 (k1.trans k3) (s1.trans (s2.trans s3)) (.cons ?_ (dpAll_mono (ft_or I3.dis (fun z => by rw [z]; exact Bool.or_true _)) _ _ dpa))
        have dp3 := dp_mono (ft_grow s3 I3.dis r.t) _ _ dp
        cases hsc : sc r.d with
        | true => exact dp_sc hsc dp3
        | false => exact dp_mono (ft_or I3.dis (fun z => by rw [z]; rfl)) _ _ dp3
theorem da_cons (ha : DE X e s) (hr : DA X es sa) (hs : starEach (e :: es) X.env = (false, eval e X.env) :: starEach es X.env := by rfl) : DA X (e :: es) (sACons s sa) :=
  PA.imp (pa_cons ha hr hs) fun _ _ _ h => da_t h
def sLst (s : SA) : SE := fun ρ => match s ρ with
  | none => none
  | some (ds, t, ρ') => if ds.length ≤ sizeLine then some (⟨.list ds, t, .fr⟩, ρ') else none
def sTup (s : SA) : SE := fun ρ => match s ρ with
  | none => none
  | some (ds, t, ρ') => if ds.length ≤ sizeLine then some (⟨.tuple ds, t, .sh⟩, ρ') else none
theorem d_lst (h : DA X es sa) : DE X (.List es pos) (sLst sa) := PE.imp (pe_lst h) fun σ H Q ⟨C, N, ρ, r, ρ', I, e, fin⟩ => by
  unfold sLst at e
  split at e
  · cases e
  · rename_i ds t ρ1 e1
    split at e
    · rename_i hz
      cases e
      exact ⟨C, N, ρ, ds, t, _, I, e1, fun vs N' H' I' k s dp => ⟨by rw [dp.len]; exact hz, fun p hp => (fin.after k s).newL I' dp hp⟩⟩
    · cases e
theorem d_tup {x1} (h : DA X es sa) : DE X (.Tuple es x1 pos) (sTup sa) := PE.imp (pe_tup h) fun σ H Q ⟨C, N, ρ, r, ρ', I, e, fin⟩ => by
  unfold sTup at e
  split at e
  · cases e
  · rename_i ds t ρ1 e1
    split at e
    · rename_i hz
      cases e
      exact ⟨C, N, ρ, ds, t, _, I, e1, fun vs N' H' I' k s dp => ⟨by rw [dp.len]; exact hz, fun p hp => (fin.after k s).newT I' dp hp⟩⟩
    · cases e
end

/-! ### tests -/
abbrev ST := En → Option (Bool × En)
def tT (K : PySem.W.Frag) (s : ST) : TT := fun σ H Q => ∃ C N ρ b ρ', EI K C N H σ ρ ∧ s ρ = some (b, ρ') ∧ ∀ N' H', EI K C N' H' σ ρ' → Keep C H H' → Same N N' → Q b H'
theorem PT.imp {X : Cx} {e : Expr} {t t' : TT} (h : PT X e t) (i : ∀ σ H Q, t' σ H Q → t σ H Q) : PT X e t' :=
  ⟨fun pins s σ H Q I hw => h.run pins s σ H Q I (i σ H Q hw)⟩
theorem PW.imp {X : Cx} {e : Expr} {t t' : TT} (h : PW X e t) (i : ∀ σ H Q, t' σ H Q → t σ H Q) : PW X e t' :=
  ⟨fun wh pins s σ H Q I hw => h.run wh pins s σ H Q I (i σ H Q hw)⟩
abbrev DT (X : Cx) (e : Expr) (s : ST) : Prop := PT X e (tT X.K s)
abbrev DW (X : Cx) (e : Expr) (s : ST) : Prop := PW X e (tT X.K s)
def tru : PyData → Option Bool
  | .none => some false
  | .bool b => some b
  | .int i => some (i != 0)
  | .str y => if y.length ≤ sizeLine then some ((y.length : Int) != 0) else none
  | .list xs => some (!xs.isEmpty)
  | .tuple xs => some (!xs.isEmpty)
  | .dict _ => none
def sTru (s : SE) : ST := fun ρ => match s ρ with
  | none => none
  | some (r, ρ1) => match tru r.d with
    | none => none
    | some b => some (b, ρ1)
def sBoo (s : SE) : ST := fun ρ => match s ρ with
  | some (⟨.bool b, _, _⟩, ρ1) => some (b, ρ1)
  | _ => none
def sAnd (s u : ST) : ST := fun ρ => match s ρ with
  | none => none
  | some (true, ρ1) => u ρ1
  | some (false, ρ1) => some (false, ρ1)
def sOr (s u : ST) : ST := fun ρ => match s ρ with
  | none => none
  | some (true, ρ1) => some (true, ρ1)
  | some (false, ρ1) => u ρ1
def sNot (s : ST) : ST := fun ρ => match s ρ with
  | none => none
  | some (b, ρ1) => some (!b, ρ1)
theorem tru_of {K : PySem.W.Frag} {C : Ctx} {N H : Hp} {σ : St} {ρ : En} {r : Res} {v : V} {b : Bool} (I : EI K C N H σ ρ) (h : RA K C N H r v) (e : tru r.d = some b) : TruV K v H b := by
  have q := I.dp h
  generalize r.d = d at e q
  cases q with
  | non => cases e; rfl
  | bl b' => cases e; rfl
  | int i => cases e; rfl
  | str y =>
    simp only [tru] at e
    split at e
    · rename_i hz
      cases e
      exact ⟨hz, rfl⟩
    · cases e
  | lst hs ha =>
    cases e
    rename_i a xs ds
    refine .inl ⟨xs, hs, ?_⟩
    cases ha <;> rfl
  | tup hs ha =>
    cases e
    rename_i a xs ds
    refine .inr (.inl ⟨xs, hs, ?_⟩)
    cases ha <;> rfl
section
variable {X : Cx} {C : Ctx} {pos : Pos} {a b c e : Expr} {rest : List Expr} {s u : ST} {se sa sb : SE}
theorem dt_truth (ha : DE X a sa) (he : ∀ whole, isTrue a X.env whole = (do let v ← whole; standAt a.pos; holding [v] (truthy v)) := by intro _; rfl) : DT X a (sTru sa) :=
  PT.imp (pt_truth ha he) fun σ H Q ⟨C, N, ρ, r, ρ', I, e, fin⟩ => by
    unfold sTru at e
    split at e
    · cases e
    · rename_i x ρ1 e1
      split at e
      · cases e
      · rename_i b' e2
        cases e
        exact ⟨C, N, ρ, x, _, I, e1, fun v N1 H1 I1 k1 s1 ro nw => ⟨_, tru_of I1 (I1.ra ro) e2, fin N1 H1 I1 k1 s1⟩⟩
theorem dt_cmp {op : CmpOp} {f : Res → Res → Option Res} {rd : R2} (ho : OpR X (compareOp op) rd) (hf : Ok2 X.K f rd) (ha : DE X a sa) (hb : DE X b sb) (hm : behindInMarks op b = false) : DT X (.Compare a [op] [b] pos) (sBoo (s2 f sa sb)) :=
  PT.imp (pt_cmpR ho ha hb hm) fun σ H Q ⟨C, N, ρ, r, ρ', I, e, fin⟩ => by
    unfold sBoo at e
    split at e
    · rename_i b' t' m' ρ1 e1
      cases e
      refine d_top hf ⟨C, N, ρ, _, _, I, e1, fun v N1 H1 I1 k1 s1 ro nw => ⟨r, ?_, fin N1 H1 I1 k1 s1⟩⟩
      exact ra_bl (I1.ra ro) rfl
    · cases e
theorem dt_not (ha : DT X a s) : DT X (.UnaryOp .Not a pos) (sNot s) := PT.imp (pt_not ha) fun σ H Q ⟨C, N, ρ, r, ρ', I, e, fin⟩ => by
  unfold sNot at e
  split at e
  · cases e
  · rename_i b' ρ1 e1
    cases e
    exact ⟨C, N, ρ, b', _, I, e1, fun N1 H1 I1 k1 s1 => fin N1 H1 I1 k1 s1⟩
theorem dw_and1 (ha : DT X a s) : DW X (.BoolOp .And [a] pos) s := pw_and1 ha
theorem dw_or1 (ha : DT X a s) : DW X (.BoolOp .Or [a] pos) s := pw_or1 ha
theorem dw_and (ha : DT X a s) (hb : DW X (.BoolOp .And (b :: rest) pos) u) : DW X (.BoolOp .And (a :: b :: rest) pos) (sAnd s u) := PW.imp (pw_and ha hb) fun σ H Q ⟨C, N, ρ, r, ρ', I, e, fin⟩ => by
  unfold sAnd at e
  split at e
  · cases e
  · rename_i ρ1 e1
    exact ⟨C, N, ρ, true, ρ1, I, e1, fun N1 H1 I1 k1 s1 => iteT (⟨C, N1, ρ1, r, ρ', I1, e, fun N2 H2 I2 k2 s2 => fin N2 H2 I2 (k1.trans k2) (s1.trans s2)⟩)⟩
  · rename_i ρ1 e1
    cases e
    exact ⟨C, N, ρ, false, _, I, e1, fun N1 H1 I1 k1 s1 => iteF (fin N1 H1 I1 k1 s1)⟩
theorem dw_or (ha : DT X a s) (hb : DW X (.BoolOp .Or (b :: rest) pos) u) : DW X (.BoolOp .Or (a :: b :: rest) pos) (sOr s u) := PW.imp (pw_or ha hb) fun σ H Q ⟨C, N, ρ, r, ρ', I, e, fin⟩ => by
  unfold sOr at e
  split at e
  · cases e
  · rename_i ρ1 e1
    cases e
    exact ⟨C, N, ρ, true, _, I, e1, fun N1 H1 I1 k1 s1 => iteT (fin N1 H1 I1 k1 s1)⟩
  · rename_i ρ1 e1
    exact ⟨C, N, ρ, false, ρ1, I, e1, fun N1 H1 I1 k1 s1 => iteF (⟨C, N1, ρ1, r, ρ', I1, e, fun N2 H2 I2 k2 s2 => fin N2 H2 I2 (k1.trans k2) (s1.trans s2)⟩)⟩
/-! ### and, or, not, if as values -/
def sAndV (sa sb : SE) : SE := fun ρ => match sa ρ with
  | none => none
  | some (r, ρ1) => match tru r.d with
    | none => none
    | some true => sb ρ1
    | some false => some (r, ρ1)
def sOrV (sa sb : SE) : SE := fun ρ => match sa ρ with
  | none => none
  | some (r, ρ1) => match tru r.d with
    | none => none
    | some true => some (r, ρ1)
    | some false => sb ρ1
def sNotV (sa : SE) : SE := fun ρ => match sa ρ with
  | none => none
  | some (r, ρ1) => match tru r.d with
    | none => none
    | some b => some (⟨.bool (!b), false, .sh⟩, ρ1)
def sIf (s : ST) (sa sb : SE) : SE := fun ρ => match s ρ with
  | none => none
  | some (true, ρ1) => sa ρ1
  | some (false, ρ1) => sb ρ1
theorem d_one {op} (h : DE X a sa) : DE X (.BoolOp op [a] pos) sa := pe_one h
theorem d_andV (ha : DE X a sa) (hb : DE X (.BoolOp .And (b :: rest) pos) sb) : DE X (.BoolOp .And (a :: b :: rest) pos) (sAndV sa sb) := PE.imp (pe_andT ha hb) fun σ H Q ⟨C, N, ρ, r, ρ', I, e, fin⟩ => by
  unfold sAndV at e
  split at e
  · cases e
  · rename_i x ρ1 e1
    split at e
    · cases e
    · rename_i e2
      exact ⟨C, N, ρ, x, ρ1, I, e1, fun v N1 H1 I1 k1 s1 ro nw => ⟨true, tru_of I1 (I1.ra ro) e2, iteT (⟨C, N1, ρ1, r, ρ', I1, e, fin.after k1 s1⟩)⟩⟩
    · rename_i e2
      cases e
      exact ⟨C, N, ρ, _, _, I, e1, fun v N1 H1 I1 k1 s1 ro nw => ⟨false, tru_of I1 (I1.ra ro) e2, iteF (fin v N1 H1 I1 k1 s1 ro nw)⟩⟩
theorem d_orV (ha : DE X a sa) (hb : DE X (.BoolOp .Or (b :: rest) pos) sb) : DE X (.BoolOp .Or (a :: b :: rest) pos) (sOrV sa sb) := PE.imp (pe_orT ha hb) fun σ H Q ⟨C, N, ρ, r, ρ', I, e, fin⟩ => by
  unfold sOrV at e
  split at e
  · cases e
  · rename_i x ρ1 e1
    split at e
    · cases e
    · rename_i e2
      cases e
      exact ⟨C, N, ρ, _, _, I, e1, fun v N1 H1 I1 k1 s1 ro nw => ⟨true, tru_of I1 (I1.ra ro) e2, iteT (fin v N1 H1 I1 k1 s1 ro nw)⟩⟩
    · rename_i e2
      exact ⟨C, N, ρ, x, ρ1, I, e1, fun v N1 H1 I1 k1 s1 ro nw => ⟨false, tru_of I1 (I1.ra ro) e2, iteF (⟨C, N1, ρ1, r, ρ', I1, e, fin.after k1 s1⟩)⟩⟩
theorem d_notV (ha : DE X a sa) : DE X (.UnaryOp .Not a pos) (sNotV sa) := PE.imp (pe_notT ha) fun σ H Q ⟨C, N, ρ, r, ρ', I, e, fin⟩ => by
  unfold sNotV at e
  split at e
  · cases e
  · rename_i x ρ1 e1
    split at e
    · cases e
    · rename_i b' e2
      cases e
      exact ⟨C, N, ρ, x, _, I, e1, fun v N1 H1 I1 k1 s1 ro nw => ⟨b', tru_of I1 (I1.ra ro) e2, (fin.after k1 s1).sc I1 rfl⟩⟩
theorem d_if (hc : DT X c s) (ha : DE X a sa) (hb : DE X b sb) : DE X (.IfExp c a b pos) (sIf s sa sb) := PE.imp (pe_ifExp hc ha hb) fun σ H Q ⟨C, N, ρ, r, ρ', I, e, fin⟩ => by
  unfold sIf at e
  split at e
  · cases e
  · rename_i ρ1 e1
    exact ⟨C, N, ρ, true, ρ1, I, e1, fun N1 H1 I1 k1 s1 => iteT (⟨C, N1, ρ1, r, ρ', I1, e, fin.after k1 s1⟩)⟩
  · rename_i ρ1 e1
    exact ⟨C, N, ρ, false, ρ1, I, e1, fun N1 H1 I1 k1 s1 => iteF (⟨C, N1, ρ1, r, ρ', I1, e, fin.after k1 s1⟩)⟩
end
end Ev
/-! Ev: subscripts, slices, built-in functions. -/
namespace Ev
open PySem PySem.Spec L2

/-! ### a[i] -/
def fIx : Res → Res → Option Res := fun x y => match x.d, y.d with
  | .list xs, .int i => match atI xs i with
    | none => none
    | some d => some ⟨d, x.t && !sc d, .sh⟩
  | .tuple xs, .int i => match atI xs i with
    | none => none
    | some d => some ⟨d, x.t && !sc d, .sh⟩
  | .str z, .int i => if z.length ≤ sizeLine then match atI z.cps.toList i with
    | none => none
    | some c => sr (.str ⟨#[c]⟩) else none
  | _, _ => none
section
variable {K : PySem.W.Frag} {C : Ctx} {N H : Hp} {σ : St} {ρ : En} {t : Bool} {v : V} {d : PyData}
theorem EI.refine (I : EI K C N H σ ρ) (h : Dp [] (Ft C N t) v d) : Dp [] (Ft C N (t && !sc d)) v d := by
  cases hs : sc d with
  | true => exact dp_sc hs h
  | false => rw [Bool.not_false, Bool.and_true]; exact h
theorem atI_dp {F : Hp} {vs : List V} {ds : List PyData} {i : Int} (h : DpAll [] F vs ds) (e : atI ds i = some d) : ∃ v, atI vs i = some v ∧ Dp [] F v d := by
  unfold atI at e ⊢
  rw [h.len]
  cases q : ixN ds.length i with
  | none => rw [q] at e; cases e
  | some j =>
    rw [q] at e
    obtain ⟨v, e1, e2⟩ := h.get' (show ds[j]? = some d from e)
    exact ⟨v, e1, e2⟩
end
section
variable {X : Cx} {C : Ctx} {a b c e : Expr} {sa sb : SE} {pos p : Pos} {x : Str}
theorem ok_ix : Ok2 X.K fIx (rIx X.K) := by
  intro C N H σ ρ x y v w r Q I hx hy e fin
  unfold fIx at e
  split at e
  · rename_i xs i e1 e2
    split at e
    · cases e
    · rename_i d e3
      cases e
      obtain ⟨a, vs, e4, q, ha⟩ := I.lst hx e1
      obtain ⟨u, e5, dp⟩ := atI_dp ha e3
      exact .inl ⟨a, vs, i, u, e4, ra_int hy e2, q, e5, fin.dp I (I.refine dp)⟩
  · rename_i xs i e1 e2
    split at e
    · cases e
    · rename_i d e3
      cases e
      obtain ⟨a, vs, e4, q, _, ha⟩ := I.tup hx e1
      obtain ⟨u, e5, dp⟩ := atI_dp ha e3
      exact .inr (.inl ⟨a, vs, i, u, e4, ra_int hy e2, q, e5, fin.dp I (I.refine dp)⟩)
  · rename_i z i e1 e2
    split at e
    · rename_i hz
      split at e
      · cases e
      · rename_i c e3
        cases e
        exact .inr (.inr ⟨z, i, c, ra_str hx e1, ra_int hy e2, hz, e3, fin.sc I rfl⟩)
    · cases e
  · cases e
theorem d_ix (ha : DE X a sa) (hb : DE X b sb) (hs : PlainIx b := by exact fun _ _ => rfl) : DE X (.Subscript a b pos) (s2 fIx sa sb) :=
  PE.imp (pe_ix ix_seq ha hb hs) fun _ _ _ h => d_top ok_ix h
/-- the borrowed list's item at a written place -/
def borOf : Option Slot → Option (List PyData)
  | some (.bor xs) => some xs
  | some (.gen xs) => some xs
  | _ => none
theorem bor_at {K : PySem.W.Frag} {C : Ctx} {N H : Hp} {σ : St} {ρ : En} {i : Nat} {xs : List PyData} (I : EI K C N H σ ρ) (h : borOf ρ[i]? = some xs) : ∃ a vs, σ[i]? = some (some (.ref a)) ∧ C.g = some a ∧ H a = some (.lst vs) ∧ DpAll [] nohp vs xs := by
  cases q : ρ[i]? with
  | none => rw [q] at h; cases h
  | some s =>
    rw [q] at h
    have z := I.sl i s q
    cases s with
    | bor ys => cases h; exact z
    | gen ys => cases h; exact z
    | un => cases h
    | val _ _ => cases h
    | own _ _ => cases h
    | ro _ => cases h
def sBorIx (i : Nat) (k : Nat) : SE := fun ρ => match borOf ρ[i]? with
  | some xs => match xs[k]? with
    | some d => if sc d then some (⟨d, false, .sh⟩, ρ) else none
    | none => none
  | _ => none
theorem d_borIx {i k : Nat} {j : Nat} {pos' : Pos} (h : PE X e (tVar i)) (hs : PlainIx (.Constant (.int k) j pos') := by exact fun _ _ => rfl) : DE X (.Subscript e (.Constant (.int k) j pos') pos) (sBorIx i k) :=
  PE.imp (pe_ix ix_list h pe_int hs) fun σ H Q ⟨C, N, ρ, r, ρ', I, e, fin⟩ => by
    unfold sBorIx at e
    split at e
    · rename_i xs q
      split at e
      · rename_i d q2
        split at e
        · rename_i hsc
          cases e
          obtain ⟨a, vs, e1, e2, e3, e4⟩ := bor_at I q
          obtain ⟨u, e5, dp⟩ := e4.get' q2
          refine ⟨_, e1, a, vs, k, u, rfl, rfl, .inl (.inl e3), ?_, ?_⟩
          · have hk : k < vs.length := (List.getElem?_eq_some_iff.mp e5).1
            rw [atI_nat e5]
          · rw [dp_sc_eq hsc dp]
            exact fin.sc I hsc
        · cases e
      · cases e
    · cases e

/-! ### slices -/
abbrev SO := En → Option (Option Int × En)
def oNone : SO := fun ρ => some (none, ρ)
def oSome (s : SE) : SO := fun ρ => match s ρ with
  | some (⟨.int i, _, _⟩, ρ1) => some (some i, ρ1)
  | _ => none
def tO (K : PySem.W.Frag) (s : SO) : TO := fun σ H Q => ∃ C N ρ o ρ', EI K C N H σ ρ ∧ s ρ = some (o, ρ') ∧ ∀ N' H', EI K C N' H' σ ρ' → Keep C H H' → Same N N' → Q o H'
theorem PO.imp {e : Option Expr} {t t' : TO} (h : PO X e t) (i : ∀ σ H Q, t' σ H Q → t σ H Q) : PO X e t' :=
  ⟨fun pins s σ H Q I hw => h.run pins s σ H Q I (i σ H Q hw)⟩
abbrev DO (X : Cx) (e : Option Expr) (s : SO) : Prop := PO X e (tO X.K s)
theorem do_none : DO X none oNone := PO.imp po_none fun σ H Q ⟨C, N, ρ, o, ρ', I, e, fin⟩ => by
  cases e
  exact fin N H I .refl (Same.refl _)
theorem do_some (h : DE X a sa) : DO X (some a) (oSome sa) := PO.imp (po_some h) fun σ H Q ⟨C, N, ρ, o, ρ', I, e, fin⟩ => by
  unfold oSome at e
  split at e
  · rename_i i t m ρ1 e1
    cases e
    exact ⟨C, N, ρ, _, _, I, e1, fun v N1 H1 I1 k1 s1 ro nw => ⟨i, ra_int (I1.ra ro) rfl, fin N1 H1 I1 k1 s1⟩⟩
  · cases e
def cutD (xs : List PyData) (lo hi : Option Int) : List PyData := (xs.drop (HT.sIx xs.length 0 lo)).take (HT.sIx xs.length xs.length hi - HT.sIx xs.length 0 lo)
def fSl (x : Res) (lo hi : Option Int) : Option Res := match x.d with
  | .list xs => some ⟨.list (cutD xs lo hi), x.t, .fr⟩
  | .tuple xs => some ⟨.tuple (cutD xs lo hi), x.t, .sh⟩
  | .str z => if z.length ≤ sizeLine then sr (.str (cutS z lo hi)) else none
  | _ => none
def sSl (s : SE) (l h : SO) : SE := fun ρ => match s ρ with
  | none => none
  | some (x, ρ1) => match l ρ1 with
    | none => none
    | some (lo, ρ2) => match h ρ2 with
      | none => none
      | some (hi, ρ3) => match fSl x lo hi with
        | none => none
        | some r => some (r, ρ3)
def rSlice (K : PySem.W.Frag) : V → Option Int → Option Int → Hp → VK → Prop := fun x lo hi H Q => rSlL K x lo hi H Q ∨ rSlA K x lo hi H Q ∨ rSlS x lo hi H Q
theorem sl_any : SlR X (rSlice X.K) := sl_list.or (sl_tupA.or sl_str)
theorem cut_dp {F : Hp} {vs : List V} {ds : List PyData} {lo hi : Option Int} (h : DpAll [] F vs ds) : DpAll [] F (cutV vs lo hi) (cutD ds lo hi) := by
  unfold cutV cutD
  rw [h.len]
  exact (h.drop _).take _
theorem cut_whole {xs : List PyData} {lo hi : Option Int} (h : HT.sIx xs.length 0 lo = 0 ∧ HT.sIx xs.length xs.length hi = xs.length) : cutD xs lo hi = xs := by
  unfold cutD
  rw [h.1, h.2, List.drop_zero, Nat.sub_zero, List.take_length]
theorem d_slice {lo hi : Option Expr} {l h : SO} {p2 : Pos} (ha : DE X a sa) (hl : DO X lo l) (hh : DO X hi h) : DE X (.Subscript a (.Slice lo hi none p2) pos) (sSl sa l h) :=
  PE.imp (pe_slice sl_any ha hl hh) fun σ H Q ⟨C, N, ρ, r, ρ', I, e, fin⟩ => by
    unfold sSl at e
    split at e
    · cases e
    · rename_i x ρ1 e1
      split at e
      · cases e
      · rename_i lo' ρ2 e2
        split at e
        · cases e
        · rename_i hi' ρ3 e3
          split at e
          · cases e
          · rename_i r' e4
            cases e
            refine ⟨C, N, ρ, x, ρ1, I, e1, fun v N1 H1 I1 k1 s1 ro nw => ⟨C, N1, ρ1, _, _, I1, e2, fun N2 H2 I2 k2 s2 => ⟨C, N2, ρ2, _, _, I2, e3, fun N3 H3 I3 k3 s3 => ?_⟩⟩⟩
            have hx := ((I1.ra ro).keep k2 s2 I2.dis).keep k3 s3 I3.dis
            have fin := (fin.after (k1.trans (k2.trans k3)) (s1.trans (s2.trans s3)))
            unfold fSl at e4
            split at e4
            · rename_i xs ed
              cases e4
              obtain ⟨a, vs, e5, q, ha⟩ := I3.lst hx ed
              exact .inl ⟨a, vs, e5, q, fun p hp => fin.newL I3 (cut_dp ha) hp⟩
            · rename_i xs ed
              cases e4
              obtain ⟨a, vs, e5, q, q0, ha⟩ := I3.tup hx ed
              refine .inr (.inl ⟨a, vs, e5, q, fun hw => ?_, fun _ p hp => fin.newT I3 (cut_dp ha) hp⟩)
              rw [ha.len] at hw
              rw [cut_whole hw] at fin
              exact fin.dp I3 (.tup q0 ha)
            · rename_i z ed
              split at e4
              · rename_i hz
                cases e4
                exact .inr (.inr ⟨z, ra_str hx ed, hz, fin.sc I3 rfl⟩)
              · cases e4
            · cases e4

/-! ### built-in functions of one and two values -/
theorem d_cb1 {id : String} {r : List V → Hp → VK → Prop} {f : Res → Option Res} (hc : CallR X (.builtin id) r) (hf : Ok1 X.K f (fun v H Q => r [v] H Q)) (hv : bootBuiltins x = some (.builtin id)) (hg : Gl X x) (hm : X.mg x = none) (ha : DE X a sa)
    (hn : x ≠ "__name__" := by decide) (hdb : (x == ("__debug__" : Str)) = false := by decide) (hs : starEach [a] X.env = (false, eval a X.env) :: starEach [] X.env := by rfl) (hpl : (backTo pos (starEach [] X.env)).any (·.1) = false := by rfl) :
    DE X (.Call (.Name x p) [a] [] pos) (s1 f sa) :=
  PE.imp (pe_callB hc hg hm hv (pa_cons ha pa_nil hs) hn hdb hs hpl) fun σ H Q h => d_tun (rd := fun v H Q => r [v] H Q) hf h
theorem d_cb2 {id : String} {r : List V → Hp → VK → Prop} {f : Res → Res → Option Res} (hc : CallR X (.builtin id) r) (hf : Ok2 X.K f (fun v w H Q => r [v, w] H Q)) (hv : bootBuiltins x = some (.builtin id)) (hg : Gl X x) (hm : X.mg x = none) (ha : DE X a sa) (hb : DE X b sb)
    (hn : x ≠ "__name__" := by decide) (hdb : (x == ("__debug__" : Str)) = false := by decide) (hs : starEach [a, b] X.env = (false, eval a X.env) :: starEach [b] X.env := by rfl) (hs2 : starEach [b] X.env = (false, eval b X.env) :: starEach [] X.env := by rfl)
    (hpl : (backTo pos (starEach [b] X.env)).any (·.1) = false := by rfl) : DE X (.Call (.Name x p) [a, b] [] pos) (s2 f sa sb) :=
  PE.imp (pe_callB hc hg hm hv (pa_cons ha (pa_cons hb pa_nil hs2) hs) hn hdb hs hpl) fun σ H Q h => d_top (rd := fun v w H Q => r [v, w] H Q) hf h
theorem d_ct1 {T : String} {r : List V → Hp → VK → Prop} {f : Res → Option Res} (hc : CallR X (.type T) r) (hf : Ok1 X.K f (fun v H Q => r [v] H Q)) (hv : bootBuiltins x = some (.type T)) (hg : Gl X x) (hm : X.mg x = none) (ha : DE X a sa)
    (hn : x ≠ "__name__" := by decide) (hdb : (x == ("__debug__" : Str)) = false := by decide) (hs : starEach [a] X.env = (false, eval a X.env) :: starEach [] X.env := by rfl) (hpl : (backTo pos (starEach [] X.env)).any (·.1) = false := by rfl) :
    DE X (.Call (.Name x p) [a] [] pos) (s1 f sa) :=
  PE.imp (pe_callTy hc hg hm hv (pa_cons ha pa_nil hs) hn hdb hs hpl) fun σ H Q h => d_tun (rd := fun v H Q => r [v] H Q) hf h

def fLen : Res → Option Res := fun x => match x.d with
  | .list xs => sr (.int xs.length)
  | .tuple xs => sr (.int xs.length)
  | .str z => if z.length ≤ sizeLine then sr (.int z.length) else none
  | _ => none
def asInts : List PyData → Option (List Int)
  | [] => some []
  | .int i :: r => match asInts r with
    | some l => some (i :: l)
    | none => none
  | _ :: _ => none
def fSum : Res → Option Res := fun x => match x.d with
  | .list xs => match asInts xs with
    | some l => sr (.int l.sum)
    | none => none
  | _ => none
def fMax2 : Res → Res → Option Res := fI fun i j => if j > i then j else i
def fMin2 : Res → Res → Option Res := fI fun i j => if j < i then j else i
def fInt : Res → Option Res := fun x => match x.d with
  | .int i => sr (.int i)
  | .bool b => sr (.int (if b then 1 else 0))
  | _ => none
def fAbs : Res → Option Res := fun x => match x.d with
  | .int i => sr (.int (if i < 0 then -i else i))
  | _ => none
def fList : Res → Option Res := fun x => match x.d with
  | .list xs => some ⟨.list xs, x.t, .fr⟩
  | .tuple xs => some ⟨.list xs, x.t, .fr⟩
  | _ => none
def fTuple : Res → Option Res := fun x => match x.d with
  | .list xs => some ⟨.tuple xs, x.t, .sh⟩
  | .tuple xs => some ⟨.tuple xs, x.t, .sh⟩
  | _ => none
def sortI (l : List Int) : List Int := l.mergeSort (fun a b => decide (a ≤ b))
def fSorted : Res → Option Res := fun x => match x.d with
  | .list xs => match asInts xs with
    | some l => some ⟨.list ((sortI l).map .int), false, .fr⟩
    | none => none
  | _ => none
def fRepr : Res → Option Res := fun x => if x.d.showable && SeqAt.shaped x.d && decide (x.d.shown.length ≤ sizeLine) then sr (.str x.d.shown) else none
theorem asInts_dp {F : Hp} : ∀ {ds : List PyData} {l : List Int} {vs : List V}, asInts ds = some l → DpAll [] F vs ds → vs = l.map V.int
  | [], _, _, e, h => by cases e; cases h; rfl
  | .int i :: r, l, _, e, h => by
    unfold asInts at e
    split at e
    · rename_i l' e'
      cases e
      cases h with
      | cons h1 h2 =>
        cases h1
        rw [List.map_cons, asInts_dp e' h2]
    · cases e
  | .none :: _, _, _, e, _ => by cases e
  | .bool _ :: _, _, _, e, _ => by cases e
  | .str _ :: _, _, _, e, _ => by cases e
  | .list _ :: _, _, _, e, _ => by cases e
  | .tuple _ :: _, _, _, e, _ => by cases e
  | .dict _ :: _, _, _, e, _ => by cases e
theorem dp_ints {F : Hp} : ∀ l : List Int, DpAll [] F (l.map V.int) (l.map PyData.int)
  | [] => .nil
  | i :: l => .cons (.int i) (dp_ints l)
theorem asInts_map : ∀ l : List Int, asInts (l.map PyData.int) = some l
  | [] => rfl
  | i :: l => by
    rw [List.map_cons]
    unfold asInts
    rw [asInts_map l]
theorem ok_len : Ok1 X.K fLen (fun v H Q => ∃ x n, [v] = [x] ∧ LenV X.K x H n ∧ Q (.int n) H) := by
  intro C N H σ ρ x v r Q I hx e fin
  unfold fLen at e
  split at e
  · rename_i xs e1
    cases e
    obtain ⟨a, vs, rfl, q, ha⟩ := I.lst hx e1
    exact ⟨_, _, rfl, .inl ⟨vs, q, rfl⟩, by rw [ha.len]; exact fin.sc I rfl⟩
  · rename_i xs e1
    cases e
    obtain ⟨a, vs, rfl, q, _, ha⟩ := I.tup hx e1
    exact ⟨_, _, rfl, .inr ⟨vs, q, rfl⟩, by rw [ha.len]; exact fin.sc I rfl⟩
  · rename_i z e1
    split at e
    · rename_i hz
      cases e
      rw [ra_str hx e1]
      exact ⟨_, _, rfl, ⟨hz, rfl⟩, fin.sc I rfl⟩
    · cases e
  · cases e
theorem d_len (hg : Gl X "len") (hm : X.mg "len" = none) (ha : DE X a sa) (hs : starEach [a] X.env = (false, eval a X.env) :: starEach [] X.env := by rfl) : DE X (.Call (.Name "len" p) [a] [] pos) (s1 fLen sa) :=
  d_cb1 call_len ok_len PySem.boot_len hg hm ha (by decide) (by decide) hs
theorem ok_sum : Ok1 X.K fSum (fun v H Q => rSum X.K [v] H Q) := by
  intro C N H σ ρ x v r Q I hx e fin
  unfold fSum at e
  split at e
  · rename_i xs e1
    split at e
    · rename_i l e2
      cases e
      obtain ⟨a, vs, rfl, q, ha⟩ := I.lst hx e1
      rw [asInts_dp e2 ha] at q
      exact ⟨a, l, rfl, q, fin.sc I rfl⟩
    · cases e
  · cases e
theorem d_sum (hc : X.calm = true) (hg : Gl X "sum") (hm : X.mg "sum" = none) (ha : DE X a sa) (hs : starEach [a] X.env = (false, eval a X.env) :: starEach [] X.env := by rfl) : DE X (.Call (.Name "sum" p) [a] [] pos) (s1 fSum sa) :=
  d_cb1 (cr_sum hc) ok_sum (by decide +kernel) hg hm ha (by decide) (by decide) hs
theorem d_max2 (hc : X.calm = true) (hg : Gl X "max") (hm : X.mg "max" = none) (ha : DE X a sa) (hb : DE X b sb) (hs : starEach [a, b] X.env = (false, eval a X.env) :: starEach [b] X.env := by rfl) (hs2 : starEach [b] X.env = (false, eval b X.env) :: starEach [] X.env := by rfl)
    (hpl : (backTo pos (starEach [b] X.env)).any (·.1) = false := by rfl) : DE X (.Call (.Name "max" p) [a, b] [] pos) (s2 fMax2 sa sb) := by
  refine d_cb2 (call_max2 hc) ?_ (by decide +kernel) hg hm ha hb (by decide) (by decide) hs hs2 hpl
  intro C N H σ ρ x y v w r Q I hx hy e fin
  unfold fMax2 fI at e
  split at e
  · rename_i i j e1 e2
    cases e
    rw [ra_int hx e1, ra_int hy e2]
    exact ⟨i, j, rfl, fin.sc I rfl⟩
  · cases e
theorem d_min2 (hc : X.calm = true) (hg : Gl X "min") (hm : X.mg "min" = none) (ha : DE X a sa) (hb : DE X b sb) (hs : starEach [a, b] X.env = (false, eval a X.env) :: starEach [b] X.env := by rfl) (hs2 : starEach [b] X.env = (false, eval b X.env) :: starEach [] X.env := by rfl)
    (hpl : (backTo pos (starEach [b] X.env)).any (·.1) = false := by rfl) : DE X (.Call (.Name "min" p) [a, b] [] pos) (s2 fMin2 sa sb) := by
  refine d_cb2 (call_min2 hc) ?_ (by decide +kernel) hg hm ha hb (by decide) (by decide) hs hs2 hpl
  intro C N H σ ρ x y v w r Q I hx hy e fin
  unfold fMin2 fI at e
  split at e
  · rename_i i j e1 e2
    cases e
    rw [ra_int hx e1, ra_int hy e2]
    exact ⟨i, j, rfl, fin.sc I rfl⟩
  · cases e
theorem d_intc (hg : Gl X "int") (hm : X.mg "int" = none) (ha : DE X a sa) (hs : starEach [a] X.env = (false, eval a X.env) :: starEach [] X.env := by rfl) : DE X (.Call (.Name "int" p) [a] [] pos) (s1 fInt sa) := by
  refine d_ct1 call_int1 ?_ (by decide +kernel) hg hm ha (by decide) (by decide) hs
  intro C N H σ ρ x v r Q I hx e fin
  unfold fInt at e
  split at e
  · rename_i i e1
    cases e
    rw [ra_int hx e1]
    exact .inl ⟨i, rfl, fin.sc I rfl⟩
  · rename_i b e1
    cases e
    rw [ra_bl hx e1]
    exact .inr ⟨b, rfl, fin.sc I rfl⟩
  · cases e
theorem d_abs (hg : Gl X "abs") (hm : X.mg "abs" = none) (ha : DE X a sa) (hs : starEach [a] X.env = (false, eval a X.env) :: starEach [] X.env := by rfl) : DE X (.Call (.Name "abs" p) [a] [] pos) (s1 fAbs sa) := by
  refine d_cb1 call_abs ?_ (by decide +kernel) hg hm ha (by decide) (by decide) hs
  intro C N H σ ρ x v r Q I hx e fin
  unfold fAbs at e
  split at e
  · rename_i i e1
    cases e
    rw [ra_int hx e1]
    exact ⟨i, rfl, fin.sc I rfl⟩
  · cases e
theorem d_listc (hg : Gl X "list") (hm : X.mg "list" = none) (ha : DE X a sa) (hs : starEach [a] X.env = (false, eval a X.env) :: starEach [] X.env := by rfl) : DE X (.Call (.Name "list" p) [a] [] pos) (s1 fList sa) := by
  refine d_ct1 call_list_of ?_ (by decide +kernel) hg hm ha (by decide) (by decide) hs
  intro C N H σ ρ x v r Q I hx e fin
  unfold fList at e
  split at e
  · rename_i xs e1
    cases e
    obtain ⟨a, vs, rfl, q, ha⟩ := I.lst hx e1
    exact ⟨a, vs, rfl, .inl q, fun p hp => fin.newL I ha hp⟩
  · rename_i xs e1
    cases e
    obtain ⟨a, vs, rfl, q, _, ha⟩ := I.tup hx e1
    exact ⟨a, vs, rfl, .inr q, fun p hp => fin.newL I ha hp⟩
  · cases e
theorem d_tuplec (hg : Gl X "tuple") (hm : X.mg "tuple" = none) (ha : DE X a sa) (hs : starEach [a] X.env = (false, eval a X.env) :: starEach [] X.env := by rfl) : DE X (.Call (.Name "tuple" p) [a] [] pos) (s1 fTuple sa) := by
  refine d_ct1 call_tuple_of ?_ (by decide +kernel) hg hm ha (by decide) (by decide) hs
  intro C N H σ ρ x v r Q I hx e fin
  unfold fTuple at e
  split at e
  · rename_i xs e1
    cases e
    obtain ⟨a, vs, rfl, q, ha⟩ := I.lst hx e1
    exact ⟨a, vs, rfl, .inl ⟨q, fun p hp => fin.newT I ha hp⟩⟩
  · rename_i xs e1
    cases e
    obtain ⟨a, vs, rfl, q, q0, ha⟩ := I.tup hx e1
    exact ⟨a, vs, rfl, .inr ⟨q, fin.dp I (.tup q0 ha)⟩⟩
  · cases e
end
end Ev
/-! Ev: sorted, repr, isinstance, what is walked, comprehensions. -/
namespace Ev
open PySem PySem.Spec L2

section
variable {X : Cx} {C : Ctx} {a b c e : Expr} {sa sb : SE} {pos p : Pos} {x : Str}
theorem sortI_perm (l : List Int) : (sortI l).Perm l := List.mergeSort_perm l _
theorem sortI_pw (l : List Int) : (sortI l).Pairwise (· ≤ ·) := by
  have h := List.pairwise_mergeSort (le := fun a b : Int => decide (a ≤ b)) (fun a b c h1 h2 => by simp only [decide_eq_true_eq] at *; omega) (fun a b => by simp only [Bool.or_eq_true, decide_eq_true_eq]; omega) l
  exact h.imp fun h => of_decide_eq_true h
theorem sortI_uniq {l l' : List Int} (h : l'.Perm l) (hp : l'.Pairwise (· ≤ ·)) : l' = sortI l :=
  List.Perm.eq_of_pairwise (fun x y _ _ h1 h2 => Int.le_antisymm h1 h2) hp (sortI_pw l) (h.trans (sortI_perm l).symm)
theorem d_sorted (hg : Gl X "sorted") (hm : X.mg "sorted" = none) (ha : DE X a sa) (hs : starEach [a] X.env = (false, eval a X.env) :: starEach [] X.env := by rfl) : DE X (.Call (.Name "sorted" p) [a] [] pos) (s1 fSorted sa) := by
  refine d_cb1 cr_sortedI ?_ (by decide +kernel) hg hm ha (by decide) (by decide) hs
  intro C N H σ ρ x v r Q I hx e fin
  unfold fSorted at e
  split at e
  · rename_i xs e1
    split at e
    · rename_i l e2
      cases e
      obtain ⟨a, vs, rfl, q, ha⟩ := I.lst hx e1
      rw [asInts_dp e2 ha] at q
      refine ⟨a, l, rfl, q, fun l' p hp1 hp2 hp => ?_⟩
      rw [sortI_uniq hp1 hp2]
      exact fin.newL I (dp_ints _) hp
    · cases e
  · cases e

/-! ### repr, where nothing is being shown -/
def rRepr (K : PySem.W.Frag) : List V → Hp → VK → Prop := fun xs H Q => ∃ x d, xs = [x] ∧ Dp K H x d ∧ d.showable = true ∧ SeqAt.shaped d = true ∧ d.shown.length ≤ sizeLine ∧ Q (.str d.shown) H
theorem call_reprD (hg : X.A.guards = some []) (hu : X.A.units + 70 < cLine) : CallR X (.builtin "repr") (rRepr X.K) := by
  intro pins s σ H xs us Q I r h
  obtain ⟨x, d, rfl, hd, hs, hp, hz, q⟩ := h
  obtain ⟨u, rfl, rx⟩ := vals1 r
  have fin : ∀ t, EP X pins σ Q (.str d.shown t) { s with toks := s.toks + 1 } := fun t => ⟨.str d.shown, H, I.tok _, ⟨_, rfl⟩, q⟩
  obtain ⟨as, rd⟩ := Dp.reads I d x u hd rx
  have disp : ∀ p, u = .ref p → wpAny (model X.prog X.w) X.A (call (.builtin "repr") [u]) (EP X pins σ Q) X.xe s := fun p e => by
    subst e
    have hdep := SeqAt.depth_of_shaped hp
    have hcl := SeqAt.canLay_of_shaped hp
    refine repr_of_reads' rd hs (PyData.noDict_hsm (PyData.hasDict_of_canLay _ hcl)) hg (by omega) (fun _ _ z => z) (fun h' u' tk hk => ?_) hz
    exact ⟨.str d.shown, H, I.kept (t' := tk) hk, ⟨_, rfl⟩, q⟩
  cases hd with
  | non => cases rx; exact PySem.P.repr_of_none (fin _)
  | bl b => cases rx; exact PySem.P.repr_of_bool (by cases b <;> exact fin _)
  | int i =>
    obtain ⟨t, rfl⟩ := rx
    exact PySem.P.repr_of_int (of_decide_eq_true hs) (fin _)
  | str y =>
    obtain ⟨t, rfl⟩ := rx
    exact PySem.P.repr_of_str (fin _) hz
  | lst hs' ha => cases rx; exact disp _ rfl
  | tup hs' ha => cases rx; exact disp _ rfl
theorem d_repr (hgd : X.A.guards = some []) (hu : X.A.units + 70 < cLine) (hg : Gl X "repr") (hm : X.mg "repr" = none) (ha : DE X a sa) (hs : starEach [a] X.env = (false, eval a X.env) :: starEach [] X.env := by rfl) : DE X (.Call (.Name "repr" p) [a] [] pos) (s1 fRepr sa) := by
  refine d_cb1 (call_reprD hgd hu) ?_ (by decide +kernel) hg hm ha (by decide) (by decide) hs
  intro C N H σ ρ x v r Q I hx e fin
  unfold fRepr at e
  split at e
  · rename_i hc
    cases e
    simp only [Bool.and_eq_true, decide_eq_true_eq] at hc
    exact ⟨v, x.d, rfl, I.dp hx, hc.1.1, hc.1.2, hc.2, fin.sc I rfl⟩
  · cases e

/-! ### isinstance with a built-in class -/
def tyD : PyData → String
  | .none => "NoneType"
  | .bool _ => "bool"
  | .int _ => "int"
  | .str _ => "str"
  | .list _ => "list"
  | .tuple _ => "tuple"
  | .dict _ => "dict"
def isiB (T : String) (d : PyData) : Bool := match d with
  | .bool _ => T == "bool" || T == "int"
  | d => T == tyD d
def fIsi (T : String) : Res → Option Res := fun x => sr (.bool (isiB T x.d))
theorem tyX_dp {K : PySem.W.Frag} {H : Hp} {v : V} {d : PyData} (h : Dp K H v d) : TyX K H v (.type (tyD d)) := by
  cases h with
  | non => exact .base .non
  | bl b => exact .base (.bl b)
  | int i => exact .base (.int i)
  | str y => exact .base (.str y)
  | lst hs ha =>
    rcases hs with (q | ⟨o, q⟩) | ⟨o, its, n, h1, h2, _⟩
    · exact .base (.lst q)
    · exact .base (.frz q)
    · exact .kList h1 h2
  | tup hs ha =>
    rcases hs with (q | ⟨o, q⟩) | ⟨o, its, n, h1, h2, _⟩
    · exact .base (.tup q)
    · exact .fTuple q
    · exact .kTuple h1 h2
theorem d_isi {T : String} {pt : Pos} (hT : T ∈ ["int", "bool", "str", "list", "tuple"]) (hvT : bootBuiltins (Str.ofString T) = some (.type T)) (hnT : Str.ofString T ≠ "__name__") (hdT : ((Str.ofString T) == ("__debug__" : Str)) = false) (hg : Gl X "isinstance") (hm : X.mg "isinstance" = none) (hgT : Gl X (Str.ofString T)) (hmT : X.mg (Str.ofString T) = none) (ha : DE X a sa)
    (hs : starEach [a, .Name (Str.ofString T) pt] X.env = (false, eval a X.env) :: starEach [.Name (Str.ofString T) pt] X.env := by rfl) :
    DE X (.Call (.Name "isinstance" p) [a, .Name (Str.ofString T) pt] [] pos) (s1 (fIsi T) sa) := by
  refine PE.imp (pe_callB call_isi hg hm (by decide +kernel) (pa_cons ha (pa_cons (pe_bltn (v := .ty T) hgT hmT hvT rfl hnT hdT) pa_nil) hs) (by decide) (by decide) hs) fun σ H Q ⟨C, N, ρ, r, ρ', I, e, fin⟩ => ?_
  obtain ⟨x, e1, e2⟩ := s1_of e
  refine ⟨C, N, ρ, x, ρ', I, e1, fun v N1 H1 I1 k1 s1 ro nw => ?_⟩
  cases e2
  refine ⟨v, .ty T, .type (tyD x.d), .type T, isiB T x.d, rfl, .ty T, tyX_dp (I1.dp (I1.ra ro)), kit_ty ?_, (fin.after k1 s1).sc I1 rfl⟩
  have key : ∀ d : PyData, kitB (tyD d) T = some (isiB T d) := fun d => by
    simp only [List.mem_cons, List.not_mem_nil, or_false] at hT
    rcases hT with rfl | rfl | rfl | rfl | rfl <;> cases d <;> (simp only [tyD, isiB]; decide +kernel)
  exact key x.d
/-! ### bit_length -/
def fBits : Res → Option Res := fun x => match x.d with
  | .int i => sr (.int (Builtin.Int.intBits i : Nat))
  | _ => none
theorem d_bits {apos : Pos} (ha : DE X a sa) (hbase : attributeBase a "bit_length" X.env (eval a X.env) = eval a X.env := by rfl) (hline : (apos.endLine == pos.line) = true := by rfl) : DE X (.Call (.Attribute a "bit_length" apos) [] [] pos) (s1 fBits sa) :=
  PE.imp (pe_bits ha hbase hline) fun σ H Q ⟨C, N, ρ, r, ρ', I, e, fin⟩ => by
    obtain ⟨x, e1, e2⟩ := s1_of e
    refine ⟨C, N, ρ, x, ρ', I, e1, fun v N1 H1 I1 k1 s1 ro nw => ?_⟩
    unfold fBits at e2
    split at e2
    · rename_i i e3
      cases e2
      exact ⟨i, ra_int (I1.ra ro) e3, (fin.after k1 s1).sc I1 rfl⟩
    · cases e2
end

/-! ### what is walked -/
/-- J yields the trees ds, from states in which what N0 says stands -/
structure Yields (K : PySem.W.Frag) (C : Ctx) (J : It) (ds : List PyData) (t : Bool) (N0 : Hp) : Prop where
  go : ∀ (i : Nat) d C' N H σ ρ, ds[i]? = some d → CLe C C' → EI K C' N H σ ρ → Same N0 N → J.go i H ∧ ∀ x H', J.yld i H x H' → ∃ N', EI K C' N' H' σ ρ ∧ Keep C' H H' ∧ Same N N' ∧ Dp [] (Ft C' N' t) x d ∧ ∀ a o, N' a = some o → N a = none → H a = none
  stop : ∀ C' N H σ ρ, CLe C C' → EI K C' N H σ ρ → Same N0 N → J.stop ds.length H
def tI (K : PySem.W.Frag) (s : SA) : TI := fun σ H R => ∃ C N ρ ds t ρ', EI K C N H σ ρ ∧ s ρ = some (ds, t, ρ') ∧ ∀ J N' H', EI K C N' H' σ ρ' → Keep C H H' → Same N N' → Yields K C J ds t N' → R J H'
abbrev DI (X : Cx) (tg iter : Expr) (s : SA) : Prop := PI X tg iter (tI X.K s)
def frm : Md → Bool
  | .pk => false
  | _ => true
/-- a list or a tuple -/
def sItS (s : SE) : SA := fun ρ => match s ρ with
  | none => none
  | some (r, ρ1) => if frm r.m then match r.d with
    | .list ds => some (ds, r.t, ρ1)
    | .tuple ds => some (ds, r.t, ρ1)
    | _ => none else none
section
variable {K : PySem.W.Frag} {C : Ctx} {N N' H H' : Hp} {σ : St} {ρ : En} {v : V} {t : Bool}
/-- a source that stands still: its top in what is shared, or a list of the entry's -/
theorem EI.src (I : EI K C N H σ ρ) {r : Res} (h : RO K C N H σ ρ r v) (hm : frm r.m = true) {ds : List PyData} (e : r.d = .list ds) :
    ∃ N', EI K C N' H σ ρ ∧ Same N N' ∧ ∃ a vs, v = .ref a ∧ DpAll [] (Ft C N' r.t) vs ds ∧ ∀ C2 N2 H2 σ2 ρ2, CLe C C2 → EI K C2 N2 H2 σ2 ρ2 → Same N' N2 → SqL K H2 a vs := by
  obtain ⟨d, t, m⟩ := r
  simp only at e
  subst e
  by_cases hk : m = .kk
  · subst hk
    obtain ⟨a, vs, ds', e, rfl, q, ha⟩ := h
    cases e
    exact ⟨N, I, Same.refl _, a, vs, rfl, dpAll_mono same_no _ _ ha, fun C2 N2 H2 σ2 ρ2 c2 I2 s2 => sqL_same (I2.rs.trans I2.h0) (by rw [c2.r]; exact q)⟩
  · have hm2 : m = .sh ∨ m = .fr := by
      cases m with
      | sh => exact .inl rfl
      | fr => exact .inr rfl
      | pk => cases hm
      | kk => exact absurd rfl hk
    obtain ⟨N', I', s, dp⟩ := I.frz h hm2
    cases dp with
    | lst hs ha =>
      rename_i a vs
      refine ⟨N', I', s, a, vs, rfl, ha, fun C2 N2 H2 σ2 ρ2 c2 I2 s2 => ?_⟩
      have q := sq0 hs
      exact .inl (rd_same ((ft_grow s2 (fun b o z => by rw [← c2.fa]; exact I2.dis b o z) t).trans (by rw [← c2.ft]; exact I2.ftH t)) q)
theorem EI.srcT (I : EI K C N H σ ρ) {r : Res} (h : RO K C N H σ ρ r v) {ds : List PyData} (e : r.d = .tuple ds) :
    ∃ a vs, v = .ref a ∧ DpAll [] (Ft C N r.t) vs ds ∧ ∀ C2 N2 H2 σ2 ρ2, CLe C C2 → EI K C2 N2 H2 σ2 ρ2 → Same N N2 → SqT K H2 a vs := by
  obtain ⟨a, vs, e1, _, q, ha⟩ := I.tup (I.ra h) e
  exact ⟨a, vs, e1, ha, fun C2 N2 H2 σ2 ρ2 c2 I2 s2 => .inl (rd_same ((ft_grow s2 (fun b o z => by rw [← c2.fa]; exact I2.dis b o z) r.t).trans (by rw [← c2.ft]; exact I2.ftH r.t)) (sqT0 q))⟩
theorem y_list {a : Addr} {vs : List V} {ds : List PyData} {N0 : Hp} (ha : DpAll [] (Ft C N0 t) vs ds) (hq : ∀ C2 N2 H2 σ2 ρ2, CLe C C2 → EI K C2 N2 H2 σ2 ρ2 → Same N0 N2 → SqL K H2 a vs) : Yields K C (Itl K a) ds t N0 where
  go := fun i d C' N H σ ρ e c I s => by
    obtain ⟨v, e1, dp⟩ := ha.get' e
    refine ⟨⟨vs, v, hq _ _ _ _ _ c I s, e1⟩, fun x H' y => ?_⟩
    obtain ⟨rfl, y⟩ := y
    have := y vs (hq _ _ _ _ _ c I s)
    rw [e1] at this
    cases this
    exact ⟨N, I, .refl, Same.refl _, by rw [c.ft]; exact dp_mono (ft_grow s (fun b o z => by rw [← c.fa]; exact I.dis b o z) t) _ _ dp, fun a o h h' => by rw [h'] at h; cases h⟩
  stop := fun C' N H σ ρ c I s => ⟨vs, hq _ _ _ _ _ c I s, by rw [ha.len]; exact Nat.le_refl _⟩
theorem y_tup {a : Addr} {vs : List V} {ds : List PyData} {N0 : Hp} (ha : DpAll [] (Ft C N0 t) vs ds) (hq : ∀ C2 N2 H2 σ2 ρ2, CLe C C2 → EI K C2 N2 H2 σ2 ρ2 → Same N0 N2 → SqT K H2 a vs) : Yields K C (Itt K a) ds t N0 where
  go := fun i d C' N H σ ρ e c I s => by
    obtain ⟨v, e1, dp⟩ := ha.get' e
    refine ⟨⟨vs, v, hq _ _ _ _ _ c I s, e1⟩, fun x H' y => ?_⟩
    obtain ⟨rfl, y⟩ := y
    have := y vs (hq _ _ _ _ _ c I s)
    rw [e1] at this
    cases this
    exact ⟨N, I, .refl, Same.refl _, by rw [c.ft]; exact dp_mono (ft_grow s (fun b o z => by rw [← c.fa]; exact I.dis b o z) t) _ _ dp, fun a o h h' => by rw [h'] at h; cases h⟩
  stop := fun C' N H σ ρ c I s => ⟨vs, hq _ _ _ _ _ c I s, by rw [ha.len]; exact Nat.le_refl _⟩
theorem y_rng {lo : Int} {n : Nat} {N0 : Hp} : Yields K C (Itr lo n) ((List.range n).map fun (i : Nat) => PyData.int (lo + (i : Int))) false N0 where
  go := fun i d C' N H σ ρ e c I s => by
    rw [List.getElem?_map] at e
    obtain ⟨j, hj, rfl⟩ := Option.map_eq_some_iff.mp e
    have hlt : i < n := by
      have := (List.getElem?_eq_some_iff.mp hj).1
      rwa [List.length_range] at this
    have : j = i := by
      rw [List.getElem?_range hlt] at hj
      exact (Option.some.inj hj).symm
    subst this
    refine ⟨hlt, fun x H' y => ?_⟩
    obtain ⟨rfl, rfl⟩ := y
    exact ⟨N, I, .refl, Same.refl _, .int _, fun a o h h' => by rw [h'] at h; cases h⟩
  stop := fun C' N H σ ρ c I s => by
    rw [List.length_map, List.length_range]
    exact Nat.le_refl n
end
section
variable {X : Cx} {a b c e tg : Expr} {sa sb : SE} {pos p : Pos} {x : Str}
theorem di_seq (h : DE X e sa) : DI X tg e (sItS sa) := by
  refine ⟨fun pins s σ H R I0 hw => ?_⟩
  obtain ⟨C, N, ρ, ds, t, ρ', I, e, fin⟩ := hw
  unfold sItS at e
  split at e
  · cases e
  · rename_i r ρ1 e1
    split at e
    · rename_i hm
      split at e
      · rename_i ds' ed
        cases e
        refine (pi_list h).run pins s σ H R I0 ⟨C, N, ρ, r, _, I, e1, fun v N1 H1 I1 k1 s1 ro nw => ?_⟩
        obtain ⟨N2, I2, s2, a, vs, rfl, ha, hq⟩ := I1.src ro hm ed
        exact ⟨a, rfl, ⟨vs, hq _ _ _ _ _ .refl I2 (Same.refl _)⟩, fin _ N2 H1 I2 k1 (s1.trans s2) (y_list ha hq)⟩
      · rename_i ds' ed
        cases e
        refine (pi_tup h).run pins s σ H R I0 ⟨C, N, ρ, r, _, I, e1, fun v N1 H1 I1 k1 s1 ro nw => ?_⟩
        obtain ⟨a, vs, rfl, ha, hq⟩ := I1.srcT ro ed
        exact ⟨a, rfl, ⟨vs, hq _ _ _ _ _ .refl I1 (Same.refl _)⟩, fin _ N1 H1 I1 k1 s1 (y_tup ha hq)⟩
      · cases e
    · cases e
theorem PI.imp {X : Cx} {tg e : Expr} {t t' : TI} (h : PI X tg e t) (i : ∀ σ H Q, t' σ H Q → t σ H Q) : PI X tg e t' :=
  ⟨fun pins s σ H Q I hw => h.run pins s σ H Q I (i σ H Q hw)⟩
def rngD (lo hi : Int) : List PyData := (List.range (hi - lo).toNat).map fun (i : Nat) => PyData.int (lo + (i : Int))
def rngOk (i : Int) : Bool := decide (-(2 ^ 62) ≤ i ∧ i < 2 ^ 62)
def sItR1 (s : SE) : SA := fun ρ => match s ρ with
  | some (⟨.int j, _, _⟩, ρ1) => if rngOk j then some (rngD 0 j, false, ρ1) else none
  | _ => none
def sItR2 (s u : SE) : SA := fun ρ => match s ρ with
  | some (⟨.int i, _, _⟩, ρ1) => match u ρ1 with
    | some (⟨.int j, _, _⟩, ρ2) => if rngOk i && rngOk j then some (rngD i j, false, ρ2) else none
    | _ => none
  | _ => none
theorem di_rng1 (hg : Gl X "range") (hm : X.mg "range" = none) (ha : DE X a sa) (hs : starEach [a] X.env = [(false, eval a X.env)] := by rfl) : DI X tg (.Call (.Name "range" p) [a] [] pos) (sItR1 sa) :=
  PI.imp (pi_range1 hg hm (pa_cons ha pa_nil hs) hs) fun σ H Q ⟨C, N, ρ, ds, t, ρ', I, e, fin⟩ => by
    unfold sItR1 at e
    split at e
    · rename_i j t' m' ρ1 e1
      split at e
      · rename_i hj
        cases e
        have hj := of_decide_eq_true hj
        refine ⟨C, N, ρ, _, _, I, e1, fun v N1 H1 I1 k1 s1 ro nw => ⟨j, by rw [ra_int (I1.ra ro) rfl], hj.1, hj.2, ?_⟩⟩
        have y := y_rng (K := X.K) (C := C) (lo := 0) (n := j.toNat) (N0 := N1)
        refine fin _ N1 H1 I1 k1 s1 ?_
        unfold rngD
        rw [Int.sub_zero]
        exact y
      · cases e
    · cases e
theorem di_rng2 (hg : Gl X "range") (hm : X.mg "range" = none) (ha : DE X a sa) (hb : DE X b sb) (hs : starEach [a, b] X.env = [(false, eval a X.env), (false, eval b X.env)] := by rfl) (hs2 : starEach [b] X.env = [(false, eval b X.env)] := by rfl) : DI X tg (.Call (.Name "range" p) [a, b] [] pos) (sItR2 sa sb) :=
  PI.imp (pi_range2 hg hm (pa_cons ha (pa_cons hb pa_nil hs2) (by rw [hs, hs2])) hs hs2) fun σ H Q ⟨C, N, ρ, ds, t, ρ', I, e, fin⟩ => by
    unfold sItR2 at e
    split at e
    · rename_i i t' m' ρ1 e1
      split at e
      · rename_i j t2 m2 ρ2 e2
        split at e
        · rename_i hj
          cases e
          rw [Bool.and_eq_true] at hj
          have h1 := of_decide_eq_true hj.1
          have h2 := of_decide_eq_true hj.2
          refine ⟨C, N, ρ, _, _, I, e1, fun v N1 H1 I1 k1 s1 ro nw => ⟨C, N1, ρ1, _, _, I1, e2, fun w N2 H2 I2 k2 s2 ro2 nw2 => ⟨i, j, ?_, ⟨h1.1, h1.2, h2.1, h2.2⟩, fin _ N2 H2 I2 (k1.trans k2) (s1.trans s2) y_rng⟩⟩⟩
          rw [ra_int (I1.ra ro) rfl, ra_int (I2.ra ro2) rfl]
        · cases e
      · cases e
    · cases e
end
end Ev
/-! Ev: enumerate, zip, targets, comprehensions. -/
namespace Ev
open PySem PySem.Spec L2

def enumD (ds : List PyData) : List PyData := ds.zipIdx.map fun p => .tuple [.int ((p.2 : Nat) : Int), p.1]
def zipD (ds es : List PyData) : List PyData := (ds.zip es).map fun p => .tuple [p.1, p.2]
def sItE (s : SE) : SA := fun ρ => match s ρ with
  | none => none
  | some (r, ρ1) => if frm r.m then match r.d with
    | .list ds => some (enumD ds, r.t, ρ1)
    | _ => none else none
def sItZ (s u : SE) : SA := fun ρ => match s ρ with
  | none => none
  | some (r, ρ1) => if frm r.m then match r.d with
    | .list ds => match u ρ1 with
      | none => none
      | some (r2, ρ2) => if frm r2.m then match r2.d with
        | .list es => some (zipD ds es, r.t || r2.t, ρ2)
        | _ => none else none
    | _ => none else none
section
variable {K : PySem.W.Frag} {C : Ctx} {N N' H H' : Hp} {σ : St} {ρ : En} {v : V} {t : Bool}
theorem upd_new {N H : Hp} {T : Addr} {u : HO} (hT : H T = none) : ∀ a o, upd N T u a = some o → N a = none → H a = none := fun a o h h' => by
  by_cases e : a = T
  · rw [e]; exact hT
  · rw [upd_ne e, h'] at h; cases h
theorem y_enum {a : Addr} {vs : List V} {ds : List PyData} {N0 : Hp} (ha : DpAll [] (Ft C N0 t) vs ds) (hq : ∀ C2 N2 H2 σ2 ρ2, CLe C C2 → EI K C2 N2 H2 σ2 ρ2 → Same N0 N2 → SqL K H2 a vs) : Yields K C (Ite K a) (enumD ds) t N0 where
  go := fun i d C' N H σ ρ e c I s => by
    unfold enumD at e
    rw [List.getElem?_map] at e
    obtain ⟨⟨d', j⟩, hj, rfl⟩ := Option.map_eq_some_iff.mp e
    rw [List.getElem?_zipIdx] at hj
    obtain ⟨d2, hd2, e3⟩ := Option.map_eq_some_iff.mp hj
    cases e3
    obtain ⟨v, e1, dp⟩ := ha.get' hd2
    refine ⟨⟨vs, v, hq _ _ _ _ _ c I s, e1⟩, fun x H' y => ?_⟩
    obtain ⟨T, x', rfl, hT, rfl, y⟩ := y
    have z := y vs (hq _ _ _ _ _ c I s)
    rw [e1] at z
    cases z
    have J := I.new (o := .tup [.int ((i : Nat) : Int), v]) hT (fun _ _ z => nomatch z)
    have sN := same_upd (o := .tup [.int ((i : Nat) : Int), v]) (I.n.free hT)
    refine ⟨_, J, .of (same_upd hT), sN, .tup (.inl (.inl (ft_le J.dis t _ _ upd_same))) ?_, upd_new hT⟩
    have : ((0 + i : Nat) : Int) = ((i : Nat) : Int) := by rw [Nat.zero_add]
    rw [this]
    have g0 : Same (Ft C N0 t) (Ft C' (upd N T (.tup [.int ((i : Nat) : Int), v])) t) := by rw [c.ft]; exact ft_grow (s.trans sN) (fun b o z => by rw [← c.fa]; exact J.dis b o z) t
    exact .cons (.int _) (.cons (dp_mono g0 _ _ dp) .nil)
  stop := fun C' N H σ ρ c I s => ⟨vs, hq _ _ _ _ _ c I s, by unfold enumD; rw [List.length_map, List.length_zipIdx, ha.len]; exact Nat.le_refl _⟩
theorem y_zip {a b : Addr} {vs ws : List V} {ds es : List PyData} {t u : Bool} {N0 : Hp} (ha : DpAll [] (Ft C N0 t) vs ds) (hq : ∀ C2 N2 H2 σ2 ρ2, CLe C C2 → EI K C2 N2 H2 σ2 ρ2 → Same N0 N2 → SqL K H2 a vs) (hb : DpAll [] (Ft C N0 u) ws es)
    (hq2 : ∀ C2 N2 H2 σ2 ρ2, CLe C C2 → EI K C2 N2 H2 σ2 ρ2 → Same N0 N2 → SqL K H2 b ws) : Yields K C (Itz K a b) (zipD ds es) (t || u) N0 where
  go := fun i d C' N H σ ρ e c I s => by
    unfold zipD at e
    rw [List.getElem?_map] at e
    obtain ⟨⟨d', e'⟩, hj, rfl⟩ := Option.map_eq_some_iff.mp e
    obtain ⟨h1, h2⟩ := List.getElem?_zip_eq_some.mp hj
    obtain ⟨v, e1, dp⟩ := ha.get' h1
    obtain ⟨w, e2, dp2⟩ := hb.get' h2
    refine ⟨⟨vs, ws, v, w, hq _ _ _ _ _ c I s, hq2 _ _ _ _ _ c I s, e1, e2⟩, fun x H' y => ?_⟩
    obtain ⟨T, x', y', rfl, hT, rfl, y1, y2⟩ := y
    have z := y1 vs (hq _ _ _ _ _ c I s)
    rw [e1] at z
    cases z
    have z := y2 ws (hq2 _ _ _ _ _ c I s)
    rw [e2] at z
    cases z
    have J := I.new (o := .tup [v, w]) hT (fun _ _ z => nomatch z)
    have sN := same_upd (o := .tup [v, w]) (I.n.free hT)
    refine ⟨_, J, .of (same_upd hT), sN, .tup (.inl (.inl (ft_le J.dis _ _ _ upd_same))) ?_, upd_new hT⟩
    have dd : ∀ b o, upd N T (.tup [v, w]) b = some o → C.FA b = none := fun b o z => by rw [← c.fa]; exact J.dis b o z
    have g1 : Same (Ft C N0 t) (Ft C' (upd N T (.tup [v, w])) (t || u)) := by rw [c.ft]; exact (ft_grow (s.trans sN) dd t).trans (ft_or dd (fun z => by rw [z]; rfl))
    have g2 : Same (Ft C N0 u) (Ft C' (upd N T (.tup [v, w])) (t || u)) := by rw [c.ft]; exact (ft_grow (s.trans sN) dd u).trans (ft_or dd (fun z => by rw [z]; exact Bool.or_true _))
    exact .cons (dp_mono g1 _ _ dp) (.cons (dp_mono g2 _ _ dp2) .nil)
  stop := fun C' N H σ ρ c I s => ⟨vs, ws, hq _ _ _ _ _ c I s, hq2 _ _ _ _ _ c I s, by unfold zipD; rw [List.length_map, List.length_zip, ha.len, hb.len]; omega⟩
end
section
variable {X : Cx} {a b c e : Expr} {sa sb : SE} {pos p tpos : Pos} {x : Str} {elts : List Expr} {kk : Nat}
theorem di_enum (hg : Gl X "enumerate") (hm : X.mg "enumerate" = none) (ha : DE X a sa) (hs : starEach [a] X.env = [(false, eval a X.env)] := by rfl) : DI X (.Tuple elts kk tpos) (.Call (.Name "enumerate" p) [a] [] pos) (sItE sa) :=
  PI.imp (pi_enum hg hm (pa_cons ha pa_nil hs) hs) fun σ H Q ⟨C, N, ρ, ds, t, ρ', I, e, fin⟩ => by
    unfold sItE at e
    split at e
    · cases e
    · rename_i r ρ1 e1
      split at e
      · rename_i hm
        split at e
        · rename_i ds' ed
          cases e
          refine ⟨C, N, ρ, r, _, I, e1, fun v N1 H1 I1 k1 s1 ro nw => ?_⟩
          obtain ⟨N2, I2, s2, a, vs, rfl, ha, hq⟩ := I1.src ro hm ed
          exact ⟨a, vs, rfl, hq _ _ _ _ _ .refl I2 (Same.refl _), fin _ N2 H1 I2 k1 (s1.trans s2) (y_enum ha hq)⟩
        · cases e
      · cases e
theorem di_zip (hg : Gl X "zip") (hm : X.mg "zip" = none) (ha : DE X a sa) (hb : DE X b sb) (hs : starEach [a, b] X.env = (false, eval a X.env) :: starEach [b] X.env := by rfl) (hs2 : starEach [b] X.env = (false, eval b X.env) :: starEach [] X.env := by rfl) (hpl : (backTo pos (starEach [b] X.env)).any (·.1) = false := by rfl) :
    DI X (.Tuple elts kk tpos) (.Call (.Name "zip" p) [a, b] [] pos) (sItZ sa sb) :=
  PI.imp (pi_zip hg hm (pa_cons ha (pa_cons hb pa_nil hs2) hs) hs hpl) fun σ H Q ⟨C, N, ρ, ds, t, ρ', I, e, fin⟩ => by
    unfold sItZ at e
    split at e
    · cases e
    · rename_i r ρ1 e1
      split at e
      · rename_i hm
        split at e
        · rename_i ds' ed
          split at e
          · cases e
          · rename_i r2 ρ2 e2
            split at e
            · rename_i hm2
              split at e
              · rename_i es' ed2
                cases e
                refine ⟨C, N, ρ, r, _, I, e1, fun v N1 H1 I1 k1 s1 ro nw => ?_⟩
                obtain ⟨N2, I2, s2, a, vs, rfl, ha, hq⟩ := I1.src ro hm ed
                refine ⟨C, N2, ρ1, r2, _, I2, e2, fun w N3 H3 I3 k3 s3 ro2 nw2 => ?_⟩
                obtain ⟨N4, I4, s4, b, ws, rfl, hb, hq2⟩ := I3.src ro2 hm2 ed2
                refine ⟨a, b, vs, ws, rfl, hq _ _ _ _ _ .refl I4 (s3.trans s4), hq2 _ _ _ _ _ .refl I4 (Same.refl _), fin _ N4 H3 I4 (k1.trans k3) (s1.trans (s2.trans (s3.trans s4))) ?_⟩
                exact y_zip (dpAll_mono (ft_grow (s3.trans s4) I4.dis r.t) _ _ ha) (fun C5 N5 H5 σ5 ρ5 c5 I5 s5 => hq _ _ _ _ _ c5 I5 ((s3.trans s4).trans s5)) hb hq2
              · cases e
            · cases e
        · cases e
      · cases e
end

/-! ### targets -/
abbrev SG := PyData → Bool → En → Option En
def Off (vs : List Nat) (σ σ' : St) : Prop := σ'.length = σ.length ∧ ∀ j : Nat, j ∉ vs → σ'[j]? = σ[j]?
def tG (K : PySem.W.Frag) (s : SG) (ix : List Nat) : TG := fun v σ H Q => ∃ C N ρ d t ρ', EI K C N H σ ρ ∧ Dp [] (Ft C N t) v d ∧ s d t ρ = some ρ' ∧ ∀ σ' N' H', EI K C N' H' σ' ρ' → Off ix σ σ' → Keep C H H' → Same N N' → Q σ' H'
abbrev DG (X : Cx) (tg : Expr) (s : SG) (ix : List Nat) : Prop := PG X tg (tG X.K s ix)
abbrev SGs := List PyData → Bool → En → Option En
def tGs (K : PySem.W.Frag) (s : SGs) (ix : List Nat) : TGs := fun vs σ H Q => ∃ C N ρ ds t ρ', EI K C N H σ ρ ∧ DpAll [] (Ft C N t) vs ds ∧ s ds t ρ = some ρ' ∧ ∀ σ' N' H', EI K C N' H' σ' ρ' → Off ix σ σ' → Keep C H H' → Same N N' → Q σ' H'
abbrev DGs (X : Cx) (tg : List Expr) (s : SGs) (ix : List Nat) : Prop := PGs X tg (tGs X.K s ix)
def setOk : Slot → Bool
  | .un | .val _ _ | .own _ _ => true
  | _ => false
def stS (i : Nat) (s : Slot) (ρ : En) : Option En := match ρ[i]? with
  | some o => if setOk o then some (ρ.set i s) else none
  | none => none
def gN (i : Nat) : SG := fun d t ρ => stS i (.val (t && !sc d) d) ρ
def gsNil : SGs := fun ds _ ρ => match ds with
  | [] => some ρ
  | _ => none
def gsCons (g : SG) (gs : SGs) : SGs := fun ds t ρ => match ds with
  | d :: r => match g d t ρ with
    | none => none
    | some ρ1 => gs r t ρ1
  | [] => none
def gT (n : Nat) (gs : SGs) : SG := fun d t ρ => match d with
  | .tuple ds => if ds.length = n then gs ds t ρ else none
  | _ => none
section
variable {K : PySem.W.Frag} {C : Ctx} {N N' H H' : Hp} {σ : St} {ρ ρ' : En} {v : V} {t : Bool} {d : PyData}
/-- a slot takes a value -/
theorem EI.put (I : EI K C N H σ ρ) {i : Nat} {s : Slot} (e : stS i s ρ = some ρ') (hs : SlotOk K C N H (some (some v)) s) (hd : isOwn (some s) → ∀ j : Nat, isOwn ρ[j]? → σ[j]? ≠ some (some v)) : EI K C N H (σ.set i (some v)) ρ' := by
  unfold stS at e
  split at e
  · rename_i o q
    split at e
    · cases e
      have hi : i < ρ.length := (List.getElem?_eq_some_iff.mp q).1
      have hiσ : i < σ.length := by rw [← I.len]; exact hi
      refine ⟨I.h0, I.fa, I.rs, I.n, I.nn, I.nf, I.nz, I.gg, by rw [List.length_set, List.length_set]; exact I.len, fun j sl e => ?_, fun j k hjk hj hk => ?_⟩
      · by_cases hj : j = i
        · subst hj
          rw [List.getElem?_set_self hi] at e
          cases e
          rw [List.getElem?_set_self hiσ]
          exact hs
        · rw [List.getElem?_set_ne (Ne.symm hj)] at e
          rw [List.getElem?_set_ne (Ne.symm hj)]
          exact I.sl j sl e
      · by_cases h1 : j = i
        · subst h1
          rw [List.getElem?_set_self hi] at hj
          rw [List.getElem?_set_ne hjk] at hk
          rw [List.getElem?_set_self hiσ, List.getElem?_set_ne hjk]
          exact fun z => hd hj k hk z.symm
        · rw [List.getElem?_set_ne (Ne.symm h1)] at hj
          rw [List.getElem?_set_ne (Ne.symm h1)]
          by_cases h2 : k = i
          · subst h2
            rw [List.getElem?_set_self hi] at hk
            rw [List.getElem?_set_self hiσ]
            exact fun z => hd hk j hj z
          · rw [List.getElem?_set_ne (Ne.symm h2)] at hk
            rw [List.getElem?_set_ne (Ne.symm h2)]
            exact I.ds j k hjk hj hk
    · cases e
  · cases e
end
section
variable {X : Cx} {pos : Pos} {e : Expr} {es : List Expr} {g : SG} {gs : SGs} {i : Nat} {x : Str}
theorem dg_name (h : PG X e (gName i)) : DG X e (gN i) [i] :=
  ⟨fun pins s σ H v u Q I0 r ⟨C, N, ρ, d, t, ρ', I, dp, e, fin⟩ => h.run pins s σ H v u Q I0 r (by
    refine fin _ N H (I.put e ⟨v, rfl, I.refine dp⟩ fun z => z.elim) ⟨List.length_set, fun j hj => ?_⟩ .refl (Same.refl _)
    exact List.getElem?_set_ne (fun z => hj (by rw [z]; exact List.mem_singleton.mpr rfl)))⟩
theorem dgs_nil : DGs X [] gsNil [] := ⟨fun pins s σ H vs us Q I0 r ⟨C, N, ρ, ds, t, ρ', I, dp, e, fin⟩ => pgs_nil.run pins s σ H vs us Q I0 r (by
  unfold gsNil at e
  split at e
  · cases e
    cases dp
    exact ⟨rfl, fin σ N H I ⟨rfl, fun _ _ => rfl⟩ .refl (Same.refl _)⟩
  · cases e)⟩
theorem dgs_cons {i1 i2 : List Nat} (h1 : DG X e g i1) (h2 : DGs X es gs i2) (hs : (assignEach (e :: es) X.env).map (·.2) = assign e X.env :: (assignEach es X.env).map (·.2) := by rfl) : DGs X (e :: es) (gsCons g gs) (i1 ++ i2) :=
  ⟨fun pins s σ H vs us Q I0 r ⟨C, N, ρ, ds, t, ρ', I, dp, e, fin⟩ => (pgs_cons h1 h2 hs).run pins s σ H vs us Q I0 r (by
    unfold gsCons at e
    split at e
    · rename_i d dr
      split at e
      · cases e
      · rename_i ρ1 e1
        cases dp with
        | cons p1 p2 =>
          exact ⟨_, _, rfl, C, N, ρ, d, t, ρ1, I, p1, e1, fun σ1 N1 H1 I1 o1 k1 s1 => ⟨C, N1, ρ1, dr, t, ρ', I1, dpAll_mono (ft_grow s1 I1.dis t) _ _ p2, e, fun σ2 N2 H2 I2 o2 k2 s2 => fin σ2 N2 H2 I2 ⟨o2.1.trans o1.1, fun j hj => (o2.2 j fun z => hj (List.mem_append_right _ z)).trans (o1.2 j fun z => hj (List.mem_append_left _ z))⟩ (k1.trans k2) (s1.trans s2)⟩⟩
    · cases e)⟩
theorem dg_tup {k n : Nat} {ix : List Nat} (hc : X.calm = true) (h : DGs X es gs ix) (hn : (assignEach es X.env).length = n := by rfl) (hst : (assignEach es X.env).findIdx? (·.1) = none := by rfl) : DG X (.Tuple es k pos) (gT n gs) ix :=
  ⟨fun pins s σ H v u Q I0 r ⟨C, N, ρ, d, t, ρ', I, dp, e, fin⟩ => (pg_tup hc h hn hst).run pins s σ H v u Q I0 r (by
    unfold gT at e
    split at e
    · rename_i ds
      split at e
      · rename_i hl
        cases dp with
        | tup hs ha =>
          exact ⟨_, _, rfl, .inl (rd_same (I.ftH t) (sqT0 hs)), by rw [ha.len]; exact hl, C, N, ρ, ds, t, ρ', I, ha, e, fin⟩
      · cases e
    · cases e)⟩
end

/-! ### comprehensions -/
def wipeE (ρ : En) : List Nat → En
  | [] => ρ
  | v :: vs => (wipeE ρ vs).set v .un
/-- the slots of the block's own names, behind the block: as ahead of it, where that was shared -/
def keepS : Option Slot → Slot
  | some (.val t d) => .val t d
  | _ => .un
def restE (ρ ρ' : En) : List Nat → En
  | [] => ρ'
  | v :: vs => (restE ρ ρ' vs).set v (keepS ρ[v]?)
def tYesS : ST := fun ρ => some (true, ρ)
def lcL (g : SG) (cond : ST) (elt : SE) (vs : List Nat) (t : Bool) : List PyData → En → Option (List PyData × Bool × En)
  | [], ρ => some ([], false, ρ)
  | d :: r, ρ => match g d t ρ with
    | none => none
    | some ρa => match cond ρa with
      | none => none
      | some (false, ρb) => lcL g cond elt vs t r (wipeE ρb vs)
      | some (true, ρb) => match elt ρb with
        | none => none
        | some (x, ρc) => if okm x.m then match lcL g cond elt vs t r (wipeE ρc vs) with
          | none => none
          | some (out, tt, ρd) => some (x.d :: out, (x.t && !sc x.d) || tt, ρd) else none
def sLc (it : SA) (g : SG) (cond : ST) (elt : SE) (vs : List Nat) : SE := fun ρ => match it ρ with
  | none => none
  | some (ds, t, ρ1) => match lcL g cond elt vs t ds (wipeE ρ1 vs) with
    | none => none
    | some (out, tt, ρ2) => if out.length ≤ sizeLine then some (⟨.list out, tt, .fr⟩, restE ρ1 ρ2 vs) else none
theorem wipe_get (σ : St) (j : Nat) : ∀ vs : List Nat, (wipe σ vs)[j]? = if j ∈ vs then (if j < σ.length then some none else none) else σ[j]?
  | [] => by rw [if_neg (List.not_mem_nil)]; rfl
  | v :: vs => by
    unfold wipe
    by_cases h : v = j
    · subst h
      rw [if_pos List.mem_cons_self]
      by_cases hl : v < σ.length
      · rw [List.getElem?_set_self (by rw [wipe_length]; exact hl), if_pos hl]
      · rw [if_neg hl, List.getElem?_eq_none (by rw [List.length_set, wipe_length]; omega)]
    · rw [List.getElem?_set_ne h, wipe_get σ j vs]
      by_cases h2 : j ∈ vs
      · rw [if_pos h2, if_pos (List.mem_cons_of_mem _ h2)]
      · rw [if_neg h2, if_neg (fun z => (List.mem_cons.mp z).elim (fun q => h q.symm) h2)]
theorem wipeE_length (ρ : En) : ∀ vs : List Nat, (wipeE ρ vs).length = ρ.length
  | [] => rfl
  | v :: vs => by unfold wipeE; rw [List.length_set, wipeE_length ρ vs]
theorem wipeE_get (ρ : En) (j : Nat) : ∀ vs : List Nat, (wipeE ρ vs)[j]? = if j ∈ vs then (if j < ρ.length then some .un else none) else ρ[j]?
  | [] => by rw [if_neg (List.not_mem_nil)]; rfl
  | v :: vs => by
    unfold wipeE
    by_cases h : v = j
    · subst h
      rw [if_pos List.mem_cons_self]
      by_cases hl : v < ρ.length
      · rw [List.getElem?_set_self (by rw [wipeE_length]; exact hl), if_pos hl]
      · rw [if_neg hl, List.getElem?_eq_none (by rw [List.length_set, wipeE_length]; omega)]
    · rw [List.getElem?_set_ne h, wipeE_get ρ j vs]
      by_cases h2 : j ∈ vs
      · rw [if_pos h2, if_pos (List.mem_cons_of_mem _ h2)]
      · rw [if_neg h2, if_neg (fun z => (List.mem_cons.mp z).elim (fun q => h q.symm) h2)]
theorem restE_length (ρ ρ' : En) : ∀ vs : List Nat, (restE ρ ρ' vs).length = ρ'.length
  | [] => rfl
  | v :: vs => by unfold restE; rw [List.length_set, restE_length ρ ρ' vs]
theorem restE_get (ρ ρ' : En) (j : Nat) : ∀ vs : List Nat, (restE ρ ρ' vs)[j]? = if j ∈ vs then (if j < ρ'.length then some (keepS ρ[j]?) else none) else ρ'[j]?
  | [] => by rw [if_neg (List.not_mem_nil)]; rfl
  | v :: vs => by
    unfold restE
    by_cases h : v = j
    · subst h
      rw [if_pos List.mem_cons_self]
      by_cases hl : v < ρ'.length
      · rw [List.getElem?_set_self (by rw [restE_length]; exact hl), if_pos hl]
      · rw [if_neg hl, List.getElem?_eq_none (by rw [List.length_set, restE_length]; omega)]
    · rw [List.getElem?_set_ne h, restE_get ρ ρ' j vs]
      by_cases h2 : j ∈ vs
      · rw [if_pos h2, if_pos (List.mem_cons_of_mem _ h2)]
      · rw [if_neg h2, if_neg (fun z => (List.mem_cons.mp z).elim (fun q => h q.symm) h2)]
theorem wipe_same {σ σ2 : St} {vs ix : List Nat} (h : Off ix (wipe σ vs) σ2) (hs : ∀ j ∈ ix, j ∈ vs) : wipe σ2 vs = wipe σ vs := by
  refine List.ext_getElem? fun j => ?_
  have hl : σ2.length = σ.length := by rw [h.1, wipe_length]
  rw [wipe_get, wipe_get, hl]
  by_cases hj : j ∈ vs
  · rw [if_pos hj, if_pos hj]
  · rw [if_neg hj, if_neg hj, h.2 j (fun z => hj (hs j z)), wipe_get, if_neg hj]
section
variable {K : PySem.W.Frag} {C : Ctx} {N N' H H' : Hp} {σ : St} {ρ ρ' : En} {v : V} {t : Bool} {d : PyData}
theorem EI.wipe (I : EI K C N H σ ρ) (vs : List Nat) : EI K C N H (L2.wipe σ vs) (wipeE ρ vs) := by
  refine ⟨I.h0, I.fa, I.rs, I.n, I.nn, I.nf, I.nz, I.gg, by rw [wipe_length, wipeE_length]; exact I.len, fun j sl e => ?_, fun j k hjk hj hk => ?_⟩
  · rw [wipeE_get] at e
    by_cases hv : j ∈ vs
    · rw [if_pos hv] at e
      split at e
      · cases e; trivial
      · cases e
    · rw [if_neg hv] at e
      rw [wipe_get, if_neg hv]
      exact I.sl j sl e
  · have step : ∀ m : Nat, isOwn (wipeE ρ vs)[m]? → m ∉ vs ∧ isOwn ρ[m]? := fun m hm => by
      rw [wipeE_get] at hm
      by_cases hv : m ∈ vs
      · rw [if_pos hv] at hm
        split at hm <;> exact hm.elim
      · rw [if_neg hv] at hm
        exact ⟨hv, hm⟩
    obtain ⟨h1, h2⟩ := step j hj
    obtain ⟨h3, h4⟩ := step k hk
    rw [wipe_get, wipe_get, if_neg h1, if_neg h3]
    exact I.ds j k hjk h2 h4
/-- out of a block: the block's names as they were, the others as the block left them -/
theorem EI.unwipe {N1 H1 : Hp} (I1 : EI K C N1 H1 σ ρ) {vs : List Nat} (I : EI K C N H (L2.wipe σ vs) ρ') (s : Same N1 N) : EI K C N H σ (restE ρ ρ' vs) := by
  have hl : ρ'.length = ρ.length := by rw [I.len, wipe_length, I1.len]
  refine ⟨I.h0, I.fa, I.rs, I.n, I.nn, I.nf, I.nz, I.gg, by rw [restE_length, hl]; exact I1.len, fun j sl e => ?_, fun j k hjk hj hk => ?_⟩
  · rw [restE_get] at e
    by_cases hv : j ∈ vs
    · rw [if_pos hv] at e
      split at e
      · cases e
        unfold keepS
        split
        · rename_i t d q
          obtain ⟨v, e1, e2⟩ := I1.sl j _ q
          exact ⟨v, e1, dp_mono (ft_grow s I.dis t) _ _ e2⟩
        · trivial
      · cases e
    · rw [if_neg hv] at e
      have q := I.sl j sl e
      rw [wipe_get, if_neg hv] at q
      exact q
  · have step : ∀ m : Nat, isOwn (restE ρ ρ' vs)[m]? → m ∉ vs ∧ isOwn ρ'[m]? := fun m hm => by
      rw [restE_get] at hm
      by_cases hv : m ∈ vs
      · rw [if_pos hv] at hm
        split at hm
        · unfold keepS at hm
          split at hm <;> exact hm.elim
        · exact hm.elim
      · rw [if_neg hv] at hm
        exact ⟨hv, hm⟩
    obtain ⟨h1, h2⟩ := step j hj
    obtain ⟨h3, h4⟩ := step k hk
    have q := I.ds j k hjk h2 h4
    rw [wipe_get, wipe_get, if_neg h1, if_neg h3] at q
    exact q
/-- an object that stands by itself is guarded -/
def Ctx.guard (C : Ctx) (D : Addr) (o : HO) : Ctx := ⟨C.g, upd C.H0 D o, C.FA, C.R, C.lk⟩
theorem EI.guard (I : EI K C N H σ ρ) {D : Addr} {o : HO} (hD : H D = some o) (h0 : C.H0 D = none) (hn : N D = none) (hg : C.g ≠ some D) (ho : ∀ i : Nat, isOwn ρ[i]? → σ[i]? ≠ some (some (.ref D))) : EI K (C.guard D o) N H σ ρ := by
  have s := same_upd (o := o) h0
  refine ⟨fun a u e => ?_, I.fa.trans s, I.rs.trans s, I.n, fun a u e => ?_, I.nf, I.nz, fun g e => ?_, I.len, fun i sl e => ?_, I.ds⟩
  · by_cases h : a = D
    · subst h
      have e : upd C.H0 a o a = some u := e
      rw [upd_same] at e; cases e; exact hD
    · have e : upd C.H0 D o a = some u := e
      rw [upd_ne h] at e; exact I.h0 a u e
  · have : a ≠ D := fun z => by subst z; rw [hn] at e; cases e
    show upd C.H0 D o a = none
    rw [upd_ne this]; exact I.nn a u e
  · obtain ⟨h1, h2, h3⟩ := I.gg g e
    have : g ≠ D := fun z => hg (by rw [← z]; exact e)
    refine ⟨?_, h2, h3⟩
    show upd C.H0 D o g = none
    rw [upd_ne this]; exact h1
  · have z := I.sl i sl e
    cases sl with
    | un => trivial
    | val t d => exact z
    | own t xs =>
      obtain ⟨a, vs, e1, e2, e3, e4, e5, e6⟩ := z
      refine ⟨a, vs, e1, e2, e3, ?_, e5, e6⟩
      show upd C.H0 D o a = none
      rw [upd_ne (fun q => ho i (by rw [e]; trivial) (by rw [e1, q]))]
      exact e4
    | bor xs => exact z
    | gen xs => exact z
    | ro xs => exact z
theorem EI.unguard {D : Addr} {o : HO} (I : EI K (C.guard D o) N H σ ρ) (h0 : C.H0 D = none) (fa : Same C.FA C.H0) (rs : Same C.R C.H0) :
    EI K C N H σ ρ ∧ H D = some o ∧ N D = none ∧ C.g ≠ some D ∧ ∀ i : Nat, isOwn ρ[i]? → σ[i]? ≠ some (some (.ref D)) := by
  have s := same_upd (o := o) h0
  have hD : (C.guard D o).H0 D = some o := upd_same
  refine ⟨⟨s.trans I.h0, fa, rs, I.n, fun a u e => s.free (I.nn a u e), I.nf, I.nz, fun g e => ?_, I.len, fun i sl e => ?_, I.ds⟩, I.h0 _ _ hD, ?_, fun e => ?_, fun i hi z => ?_⟩
  · obtain ⟨h1, h2, h3⟩ := I.gg g e
    exact ⟨s.free h1, h2, h3⟩
  · have z := I.sl i sl e
    cases sl with
    | un => trivial
    | val t d => exact z
    | own t xs =>
      obtain ⟨a, vs, e1, e2, e3, e4, e5, e6⟩ := z
      exact ⟨a, vs, e1, e2, e3, s.free e4, e5, e6⟩
    | bor xs => exact z
    | gen xs => exact z
    | ro xs => exact z
  · cases q : N D with
    | none => rfl
    | some u =>
      have := I.nn D u q
      rw [hD] at this
      cases this
  · obtain ⟨h1, _⟩ := I.gg D e
    rw [hD] at h1
    cases h1
  · cases e : ρ[i]? with
    | none => rw [e] at hi; exact hi
    | some sl =>
      rw [e] at hi
      cases sl with
      | own t xs =>
        obtain ⟨a, vs, e1, e2, e3, e4, _⟩ := I.sl i _ e
        rw [z] at e1
        cases e1
        rw [hD] at e4
        cases e4
      | un => exact hi
      | val _ _ => exact hi
      | bor _ => exact hi
      | gen _ => exact hi
      | ro _ => exact hi
/-- a list that stands by itself grows -/
theorem EI.outer (I : EI K C N H σ ρ) {D : Addr} {o : HO} (h0 : C.H0 D = none) (hn : N D = none) (hg : C.g ≠ some D) (ho : ∀ i : Nat, isOwn ρ[i]? → σ[i]? ≠ some (some (.ref D))) : EI K C N (upd H D o) σ ρ := by
  refine ⟨fun a u e => ?_, I.fa, I.rs, fun a u e => ?_, I.nn, I.nf, I.nz, fun g e => ?_, I.len, fun i sl e => ?_, I.ds⟩
  · rw [upd_ne (fun z => by subst z; rw [h0] at e; cases e)]; exact I.h0 a u e
  · rw [upd_ne (fun z => by subst z; rw [hn] at e; cases e)]; exact I.n a u e
  · obtain ⟨h1, h2, xs, h3⟩ := I.gg g e
    refine ⟨h1, h2, xs, ?_⟩
    rw [upd_ne (fun z => hg (by rw [← z]; exact e))]
    exact h3
  · have z := I.sl i sl e
    cases sl with
    | un => trivial
    | val t d => exact z
    | own t xs =>
      obtain ⟨a, vs, e1, e2, r⟩ := z
      refine ⟨a, vs, e1, ?_, r⟩
      rw [upd_ne (fun q => ho i (by rw [e]; trivial) (by rw [e1, q]))]
      exact e2
    | bor xs =>
      obtain ⟨a, vs, e1, e2, e3, r⟩ := z
      refine ⟨a, vs, e1, e2, ?_, r⟩
      rw [upd_ne (fun q => hg (by rw [← q]; exact e2))]
      exact e3
    | gen xs =>
      obtain ⟨a, vs, e1, e2, e3, r⟩ := z
      refine ⟨a, vs, e1, e2, ?_, r⟩
      rw [upd_ne (fun q => hg (by rw [← q]; exact e2))]
      exact e3
    | ro xs => exact z
end
section
variable {X : Cx} {elt tg iter : Expr} {ifs : List Expr} {scope : Scope} {own : List (Str × Nat)} {pos : Pos} {si : SA} {g : SG} {cond : ST} {se : SE} {ix : List Nat}
theorem lc_read {K : PySem.W.Frag} {vs : List Nat} (hix : ∀ j ∈ ix, j ∈ vs) {σ : St} {H : Hp} {Q : VK} (h : tF K (sLc si g cond se vs) σ H Q) : tLc (tI K si) (tG K g ix) (tT K cond) (tF K se) vs σ H Q := by
  obtain ⟨C, N, ρ, r, ρ', I, e, fin⟩ := h
  unfold sLc at e
  split at e
  · cases e
  · rename_i ds t ρ1 e1
    split at e
    · cases e
    · rename_i out tt ρ2 e2
      split at e
      · rename_i hz
        cases e
        refine ⟨C, N, ρ, ds, t, ρ1, I, e1, fun J N1 H1 I1 k1 s1 Y D hD => ?_⟩
        have gD := I1.gNot hD
        have h0D := I1.h0.free hD
        refine ⟨fun i m Hi => m = ds.length - i ∧ i ≤ ds.length ∧ ∃ Ni ρi acc done rest trest, EI K C Ni Hi (wipe σ vs) ρi ∧ Same N1 Ni ∧ Keep C H1 Hi ∧ Hi D = some (.lst acc) ∧ Ni D = none ∧ (∀ i : Nat, isOwn ρi[i]? → (wipe σ vs)[i]? ≠ some (some (.ref D))) ∧
          DpAll [] (Ft C Ni tt) acc done ∧ lcL g cond se vs t (ds.drop i) ρi = some (rest, trest, ρ2) ∧ done ++ rest = out ∧ (trest = true → tt = true), ⟨ds.length, by simp, Nat.zero_le _, N1, wipeE ρ1 vs, [], [], out, tt, ?_, Same.refl _, .of (same_upd hD), upd_same, I1.n.free hD, ?_, .nil, e2, rfl, fun z => z⟩, ?_⟩
        · exact (I1.tmp hD).wipe vs
        · exact fun i hi => (I1.wipe vs).ownNot hD i hi
        · rintro i m Hi ⟨rfl, hi, Ni, ρi, acc, done, rest, trest, Ii, si', ki, hDi, nDi, oDi, dpi, ei, eo, et⟩
          by_cases hlt : i < ds.length
          · refine .inr ?_
            have hd : ds[i]? = some ds[i] := List.getElem?_eq_getElem hlt
            obtain ⟨go, yld⟩ := Y.go i _ _ _ _ _ _ hd .refl Ii si'
            refine ⟨go, fun H' => ds.length - (i + 1) = ds.length - (i + 1) ∧ i + 1 ≤ ds.length ∧ ∃ Ni ρi acc done rest trest, EI K C Ni H' (wipe σ vs) ρi ∧ Same N1 Ni ∧ Keep C H1 H' ∧ H' D = some (.lst acc) ∧ Ni D = none ∧ (∀ i : Nat, isOwn ρi[i]? → (wipe σ vs)[i]? ≠ some (some (.ref D))) ∧
              DpAll [] (Ft C Ni tt) acc done ∧ lcL g cond se vs t (ds.drop (i + 1)) ρi = some (rest, trest, ρ2) ∧ done ++ rest = out ∧ (trest = true → tt = true), fun H' h' => ⟨ds.length - (i + 1), by omega, h'⟩, fun x H' y => ?_⟩
            obtain ⟨N3, I3, k3, s3, dx, nw⟩ := yld x H' y
            have hD3 : H' D = some (.lst acc) := k3 _ _ hDi gD
            have nD3 : N3 D = none := by
              cases q : N3 D with
              | none => rfl
              | some u =>
                have := nw D u q nDi
                rw [hDi] at this
                cases this
            have I3' := I3.guard hD3 h0D nD3 gD oDi
            rw [List.drop_eq_getElem_cons hlt] at ei
            unfold lcL at ei
            split at ei
            · cases ei
            · rename_i ρa ea
              refine ⟨C.guard D (.lst acc), N3, ρi, _, t, ρa, I3', dx, ea, fun σ2 N4 H4 I4 off k4 s4 => ⟨wipe_same off hix, ?_⟩⟩
              split at ei
              · cases ei
              · rename_i ρb eb
                refine ⟨_, N4, ρa, false, ρb, I4, eb, fun N5 H5 I5 k5 s5 => iteF ⟨rfl, hlt, ?_⟩⟩
                obtain ⟨I6, hD6, nD6, _, oD6⟩ := I5.unguard h0D I1.fa I1.rs
                have I7 := I6.wipe vs
                rw [wipe_same off hix] at I7
                refine ⟨N5, wipeE ρb vs, acc, done, rest, trest, I7, si'.trans (s3.trans (s4.trans s5)), ki.trans (k3.trans (Keep.trans (C := C) k4 k5)), hD6, nD6, fun j hj => ?_, dpAll_mono (ft_grow (s3.trans (s4.trans s5)) I6.dis tt) _ _ dpi, ei, eo, et⟩
                have q := hj
                rw [wipeE_get] at q
                by_cases hv : j ∈ vs
                · rw [if_pos hv] at q
                  split at q <;> exact q.elim
                · rw [if_neg hv] at q
                  have z := oD6 j q
                  rw [← wipe_same off hix, wipe_get, if_neg hv]
                  exact z
              · rename_i ρb eb
                refine ⟨_, N4, ρa, true, ρb, I4, eb, fun N5 H5 I5 k5 s5 => iteT ?_⟩
                split at ei
                · cases ei
                · rename_i x' ρc ec
                  split at ei
                  · rename_i hm
                    split at ei
                    · cases ei
                    · rename_i out' tt' ρd ed
                      cases ei
                      refine ⟨_, N5, ρb, x', ρc, I5, ec, fun y' N6 H6 I6 k6 s6 ro nw => ?_⟩
                      obtain ⟨N7, I7, s7, dp⟩ := I6.frz ro (by
                        cases m : x'.m with
                        | sh => exact .inl rfl
                        | fr => exact .inr rfl
                        | pk => rw [m] at hm; cases hm
                        | kk => rw [m] at hm; cases hm)
                      obtain ⟨I8, hD8, nD8, _, oD8⟩ := I7.unguard h0D I1.fa I1.rs
                      have hl : acc.length < sizeLine := by
                        rw [dpi.len]
                        have := congrArg List.length eo
                        rw [List.length_append, List.length_cons] at this
                        omega
                      have I9 := (I8.outer (o := .lst (acc ++ [y'])) h0D nD8 gD oD8).wipe vs
                      rw [wipe_same off hix] at I9
                      have sN : Same Ni N7 := s3.trans (s4.trans (s5.trans (s6.trans s7)))
                      refine ⟨acc, hD8, hl, rfl, hlt, N7, wipeE ρc vs, acc ++ [y'], done ++ [x'.d], out', tt', I9, si'.trans sN, ?_, upd_same, nD8, fun j hj => ?_, ?_, ed, by rw [List.append_assoc]; exact eo, fun z => et (by rw [z]; exact Bool.or_true _)⟩
                      · intro a o ha hg
                        have hne : a ≠ D := ne_of_none ha hD
                        rw [upd_ne hne]
                        exact k6 _ _ (k5 _ _ (k4 _ _ (k3 _ _ (ki _ _ ha hg) hg) hg) hg) hg
                      · have q := hj
                        rw [wipeE_get] at q
                        by_cases hv : j ∈ vs
                        · rw [if_pos hv] at q
                          split at q <;> exact q.elim
                        · rw [if_neg hv] at q
                          have z := oD8 j q
                          rw [← wipe_same off hix, wipe_get, if_neg hv]
                          exact z
                      · refine (dpAll_mono (ft_grow sN I8.dis tt) _ _ dpi).append (.cons ?_ .nil)
                        have dp : Dp [] (Ft C N7 x'.t) y' x'.d := dp
                        cases hsc : sc x'.d with
                        | true => exact dp_sc hsc dp
                        | false => exact dp_mono (ft_or I8.dis (fun z => et (by rw [z, hsc]; rfl))) _ _ dp
                  · cases ei
          · have hi' : i = ds.length := by omega
            subst hi'
            refine .inl ⟨Y.stop _ _ _ _ _ .refl Ii si', ?_⟩
            rw [List.drop_length] at ei
            unfold lcL at ei
            cases ei
            rw [List.append_nil] at eo
            subst eo
            have IF := I1.unwipe (vs := vs) Ii si'
            refine fin (.ref D) Ni Hi IF (k1.trans ki) (s1.trans si') ⟨D, acc, _, rfl, rfl, hDi, nDi, h0D, gD, fun j hj => ?_, dpi⟩ fun _ a e => ?_
            rotate_left
            · cases e
              cases q : H D with
              | none => rfl
              | some o =>
                have := k1 D o q gD
                rw [hD] at this
                cases this
            rw [restE_get] at hj
            by_cases hv : j ∈ vs
            · rw [if_pos hv] at hj
              split at hj
              · unfold keepS at hj
                split at hj <;> exact hj.elim
              · exact hj.elim
            · rw [if_neg hv] at hj
              have z := oDi j hj
              rw [wipe_get, if_neg hv] at z
              exact z
      · cases e
theorem d_lc (hc : X.calm = true) (hN : X.N.Nodup) (hi : DI X tg iter si) (ok : BlkOk X.N X.env.scope scope own) (hix : ∀ j ∈ ix, j ∈ own.map (·.2))
    (hg : ∀ (s : Shared) (H : Hp) (C : Addr) (cl : List (Str × Addr)) (fp : List Addr), DG (X.blk s H scope (compEnvC scope cl C X.env) fp) tg g ix)
    (ht : ∀ (s : Shared) (H : Hp) (C : Addr) (cl : List (Str × Addr)) (fp : List Addr), PTs (X.blk s H scope (compEnvC scope cl C X.env) fp) ifs (tT X.K cond))
    (he : ∀ (s : Shared) (H : Hp) (C : Addr) (cl : List (Str × Addr)) (fp : List Addr), DE (X.blk s H scope (compEnvC scope cl C X.env) fp) elt se) (hs : ∀ x, foldedSetIterable iter X.env x = pure x := by intro _; rfl) :
    DE X (.ListComp elt [⟨tg, iter, ifs, 0⟩] scope pos) (sLc si g cond se (own.map (·.2))) :=
  PE.imp (pe_lc hc hN hi ok hg ht he hs) fun _ _ _ h => lc_read hix h
theorem dts_nil : PTs X [] (tT X.K tYesS) := ⟨fun pins s σ H Q I0 ⟨C, N, ρ, b, ρ', I, e, fin⟩ => pts_nil.run pins s σ H Q I0 (by
  cases e
  exact fin N H I .refl (Same.refl _))⟩
theorem dts_one {c : Expr} {s : ST} (h : DT X c s) : PTs X [c] (tT X.K s) := pts_one h
end
end Ev
/-! Ev: defs: what they promise, how they are called. -/
namespace Ev
open PySem PySem.Spec L2

/-- a def's meaning: of the first list's items (borrowed or only read; none of them: []), of the other arguments' trees; the result, the borrowed list's items behind -/
abbrev Fn := List PyData → List PyData → Option (Res × List PyData)
inductive GM where
  | no | bo | rd
  deriving DecidableEq
def NoFz (F : Hp) : Prop := ∀ a o u, F a ≠ some (.frz o u)
/-- how the first argument lies -/
def Head (K : PySem.W.Frag) (H FA R : Hp) (gs : List PyData) : GM → Option Addr → List V → Prop
  | .no, g, hv => g = none ∧ hv = [] ∧ gs = []
  | .bo, g, hv => ∃ a xs, g = some a ∧ hv = [.ref a] ∧ FA a = none ∧ R a = none ∧ H a = some (.lst xs) ∧ DpAll [] nohp xs gs
  | .rd, g, hv => ∃ a xs, g = none ∧ hv = [.ref a] ∧ SqL K R a xs ∧ DpAll [] nohp xs gs
def RF (N FA H H' : Hp) (r : Res) (v : V) : Prop :=
  match r.m with
  | .sh => Dp [] (if r.t then ov N FA else N) v r.d
  | .fr => ∃ a vs ds, r.d = .list ds ∧ v = .ref a ∧ H' a = some (.lst vs) ∧ N a = none ∧ H a = none ∧ DpAll [] (if r.t then ov N FA else N) vs ds
  | _ => False
/-- what stands behind a call -/
structure Post (g : Option Addr) (FA H : Hp) (r : Res) (gs' : List PyData) (v : V) (H' N : Hp) : Prop where
  keep : ∀ a o, H a = some o → g ≠ some a → H' a = some o
  n : Same N H'
  nw : ∀ a o, N a = some o → H a = none
  nz : NoFz N
  gl : ∀ a, g = some a → ∃ xs, H' a = some (.lst xs) ∧ DpAll [] nohp xs gs'
  rf : RF N FA H H' r v
def spF (K : PySem.W.Frag) (gm : GM) (n : Nat) (F : Fn) : Sp := fun vs H Q _ => ∃ (g : Option Addr) (FA R : Hp) (gs ds : List PyData) (hv ws : List V) (r : Res) (gs' : List PyData),
  vs = hv ++ ws ∧ ds.length = n ∧ Head K H FA R gs gm g hv ∧ Same FA H ∧ Same R H ∧ NoFz FA ∧ DpAll [] FA ws ds ∧ F gs ds = some (r, gs') ∧ ∀ v H' N, Post g FA H r gs' v H' N → Q v H'
def hn : GM → Nat
  | .no => 0
  | _ => 1
theorem Head.len {K : PySem.W.Frag} {H FA R : Hp} {gs : List PyData} {gm : GM} {g : Option Addr} {hv : List V} (h : Head K H FA R gs gm g hv) : hv.length = hn gm := by
  cases gm with
  | no => obtain ⟨_, rfl, _⟩ := h; rfl
  | bo => obtain ⟨a, xs, _, rfl, _⟩ := h; rfl
  | rd => obtain ⟨a, xs, _, rfl, _⟩ := h; rfl
theorem spF_len {K : PySem.W.Frag} {gm : GM} {n : Nat} {F : Fn} {vs : List V} {H : Hp} {Q : VK} {E : XK} (h : spF K gm n F vs H Q E) : vs.length = hn gm + n := by
  obtain ⟨g, FA, R, gs, ds, hv, ws, r, gs', rfl, h1, h2, _, _, _, h3, _⟩ := h
  rw [List.length_append, h2.len, h3.len, h1]

/-- a def keeps its promise wherever nothing is being shown -/
structure FnG (P : Program) (w : World) (K : PySem.W.Frag) (mg : Str → Option Value) (base : Heap) (k : Nat) (f : Addr) (fd : FuncData) (ps : List Str) (sp : Sp) : Prop where
  len : ∀ vs H Q E, sp vs H Q E → vs.length = ps.length
  run : ∀ (A : Around) (outer : List Env) (s : Shared) (H : Hp) (args : Args) (us : List Value) (vs : List V) (Q : VK) (E : XK), Room k A → A.guards = some [] → Env0 P w K mg base A outer s H → BindsTo s fd args (ps.zip us) → Vals vs us →
    sp vs H Q E → codeAny (model P w) A (.call (.ref f) args) (CR CX0 outer P w H s Q E) s
section
variable {P : Program} {w : World} {K : PySem.W.Frag} {mg : Str → Option Value} {base : Heap} {j k : Nat} {f : Addr} {fd : FuncData} {ps : List Str} {sp sp' : Sp}
theorem FnG.mono (F : FnG P w K mg base j f fd ps sp) (h : j ≤ k) : FnG P w K mg base k f fd ps sp :=
  ⟨F.len, fun A outer s H args us vs Q E hr => F.run A outer s H args us vs Q E (hr.mono h)⟩
theorem FnG.imp (F : FnG P w K mg base k f fd ps sp) (h : ∀ vs H Q E, sp' vs H Q E → sp vs H Q E) : FnG P w K mg base k f fd ps sp' :=
  ⟨fun vs H Q E q => F.len vs H Q E (h _ _ _ _ q), fun A outer s H args us vs Q E hr hg he hb hv hs => F.run A outer s H args us vs Q E hr hg he hb hv (h _ _ _ _ hs)⟩
/-- a def's meaning is said otherwise -/
theorem FnG.same {gm : GM} {n : Nat} {F F' : Fn} (h : FnG P w K mg base k f fd ps (spF K gm n F)) (e : ∀ gs ds r gs', ds.length = n → F' gs ds = some (r, gs') → F gs ds = some (r, gs')) : FnG P w K mg base k f fd ps (spF K gm n F') :=
  h.imp fun vs H Q E ⟨g, FA, R, gs, ds, hv, ws, r, gs', h0, h1, h2, h3, h4, h5, h6, h7, h8⟩ => ⟨g, FA, R, gs, ds, hv, ws, r, gs', h0, h1, h2, h3, h4, h5, h6, e _ _ _ _ h1 h7, h8⟩
end

/-! ### the call -/
section
variable {X : Cx} {k : Nat} {f : Addr} {fd : FuncData} {ps ks : List Str} {sp : Sp} {x : Str} {p pos : Pos} {e : Expr} {es : List Expr} {kws : List Keyword} {t tk : TA}
theorem run_G {pins : List (Addr × Obj)} {σ : St} {H : Hp} {s : Shared} {Q : VK} {args : Args} {us : List Value} {vs : List V} (F : FnG X.prog X.w X.K X.mg X.base k f fd ps sp) (hr : Room k X.A) (hgd : X.A.guards = some [])
    (I : L2.Inv X pins σ H s) (hb : BindsTo s fd args (ps.zip us)) (r : Vals vs us) (h : sp vs H Q E0) : wpAny (model X.prog X.w) X.A (call (.ref f) args.pos args.kw) (EP X pins σ Q) X.xe s := by
  have key := F.run X.A X.stack s H args us vs Q E0 hr hgd I.env0 hb r h
  refine wpAny_call (codeAny_mono key fun res s' hq => ?_)
  match res, hq with
  | .error _, hq => exact False.elim hq
  | .ok (.ret u), hq => exact I.after hq
theorem pe_G (F : FnG X.prog X.w X.K X.mg X.base k f fd ps sp) (hr : Room k X.A) (hgd : X.A.guards = some []) (hg : Gl X x) (hm : X.mg x = some (.ref f)) (hk : PySem.W.keepIn X.K (.ref f) = true) (hb : Binds X.K fd ps [])
    (ha : PA X (e :: es) t) (hdb : (x == ("__debug__" : Str)) = false := by decide) (he : starEach (e :: es) X.env = (false, eval e X.env) :: starEach es X.env := by rfl) (hpl : (backTo pos (starEach es X.env)).any (·.1) = false := by rfl) :
    PE X (.Call (.Name x p) (e :: es) [] pos) (fun σ H Q => t σ H fun vs H1 => sp vs H1 Q E0) := by
  refine ⟨fun pins s σ H Q I h => wpAny_Call_Name_kw (ld_glob I hg hm ?_ hdb)⟩
  refine PySem.W.callWith_K (h₀ := X.base) I.ok.mod.kin hk (thn (ha.run pos pins s σ H _ I h) fun us s1 h1 => ?_) he hpl
  obtain ⟨vs, H1, I1, r, q⟩ := h1
  have hl : (us ++ []).length = ps.length := by rw [List.append_nil, ← r.length]; exact F.len _ _ _ _ q
  have b := hb s1 us I1.kIn hl
  rw [List.append_nil] at b
  exact ⟨I1.kIn, run_G (args := ⟨us, []⟩) F hr hgd I1 b r q⟩
theorem pe_G0 (F : FnG X.prog X.w X.K X.mg X.base k f fd ps sp) (hr : Room k X.A) (hgd : X.A.guards = some []) (hg : Gl X x) (hm : X.mg x = some (.ref f)) (hk : PySem.W.keepIn X.K (.ref f) = true) (hb : Binds X.K fd ps [])
    (hdb : (x == ("__debug__" : Str)) = false := by decide) : PE X (.Call (.Name x p) [] [] pos) (fun σ H Q => sp [] H Q E0) := by
  refine ⟨fun pins s σ H Q I h => wpAny_Call_Name_kw (ld_glob I hg hm ?_ hdb)⟩
  have hl : (([] : List Value) ++ []).length = ps.length := by have := F.len _ _ _ _ h; simpa using this
  exact PySem.W.callWith_K0 I.kIn hk (run_G (args := ⟨[], []⟩) F hr hgd I (hb s [] I.kIn hl) .nil h)
/-- all arguments by their names: g puts them in the parameters' order -/
structure KWB (K : PySem.W.Frag) (fd : FuncData) (ps ks : List Str) (pe : List Nat) : Prop where
  to : ∀ (s : Shared) (ws : List Value), K.In s.heap → ws.length = ks.length → BindsTo s fd ⟨[], ks.zip ws⟩ (ps.zip (pe.filterMap fun i => ws[i]?))
theorem vals_perm {zs : List V} {ws : List Value} (r : Vals zs ws) : ∀ pe : List Nat, Vals (pe.filterMap fun i => zs[i]?) (pe.filterMap fun i => ws[i]?)
  | [] => .nil
  | i :: pe => by
    rw [List.filterMap_cons, List.filterMap_cons]
    cases q : zs[i]? with
    | none =>
      rw [r.none_of q]
      exact vals_perm r pe
    | some z =>
      obtain ⟨u, e, ru⟩ := r.get q
      rw [e]
      exact .cons ru (vals_perm r pe)
theorem pe_GK {pe : List Nat} (F : FnG X.prog X.w X.K X.mg X.base k f fd ps sp) (hr : Room k X.A) (hgd : X.A.guards = some []) (hg : Gl X x) (hm : X.mg x = some (.ref f)) (hk : PySem.W.keepIn X.K (.ref f) = true) (hb : KWB X.K fd ps ks pe)
    (hkw : PK X kws tk) (hall : (backToKw pos (keywordEach kws X.env)).all (·.1.isSome) = true := by rfl) (hks : (backToKw pos (keywordEach kws X.env)).filterMap (·.1) = ks := by rfl)
    (hdb : (x == ("__debug__" : Str)) = false := by decide) (hpl : ((backTo pos (starEach [] X.env)).any (·.1) || (backToKw pos (keywordEach kws X.env)).any (·.1.isNone)) = false := by rfl) :
    PE X (.Call (.Name x p) [] kws pos) (fun σ H Q => tk σ H fun zs H1 => zs.length = ks.length ∧ sp (pe.filterMap fun i => zs[i]?) H1 Q E0) := by
  refine ⟨fun pins s σ H Q I h => wpAny_Call_Name_kw (ld_glob I hg hm ?_ hdb)⟩
  refine PySem.W.callWith_KW0 (h₀ := X.base) I.ok.mod.kin hk hall (thn (hkw.run pos pins s σ H _ I h) fun ws s1 h1 => ?_) hpl
  obtain ⟨zs, H1, I1, r, hl, q⟩ := h1
  rw [hks]
  exact ⟨I1.kIn, run_G (args := ⟨[], ks.zip ws⟩) F hr hgd I1 (hb.to s1 ws I1.kIn (by rw [← r.length]; exact hl)) (vals_perm r pe) q⟩
end
end Ev
/-! Ev: calls of defs. -/
namespace Ev
open PySem PySem.Spec L2

def backR (r : Res) (t : Bool) : Res := ⟨r.d, r.t && t, r.m⟩
def sCall (n : Nat) (F : Fn) (sa : SA) : SE := fun ρ => match sa ρ with
  | none => none
  | some (ds, t, ρ1) => if ds.length = n then match F [] ds with
    | none => none
    | some (r, _) => if okm r.m then some (backR r t, ρ1) else none else none
def nb : Slot → Bool
  | .bor _ | .gen _ => false
  | _ => true
def reB (gs : List PyData) : Slot → Slot
  | .bor _ => .bor gs
  | .gen _ => .gen gs
  | s => s
/-- the lent list at slot i, alone, takes its new items -/
def lend (i : Nat) (gs : List PyData) (ρ : En) : Option En := match ρ[i]? with
  | some s => if (ρ.set i .un).all nb then some (ρ.set i (reB gs s)) else none
  | none => none
def sCallB (n : Nat) (F : Fn) (i : Nat) (sa : SA) : SE := fun ρ => match borOf ρ[i]? with
  | none => none
  | some _ => match sa ρ with
    | none => none
    | some (ds, t, ρ1) => if ds.length = n then match borOf ρ1[i]? with
      | none => none
      | some gs => match F gs ds with
        | none => none
        | some (r, gs') => if okm r.m then match lend i gs' ρ1 with
          | none => none
          | some ρ2 => some (backR r t, ρ2) else none else none
/-- the first argument is a new list, lent and forgotten -/
def sCallT (n : Nat) (F : Fn) (s : SE) (sa : SA) : SE := fun ρ => match s ρ with
  | some (⟨.list gs, _, .fr⟩, ρ0) => if gs.all sc then match sa ρ0 with
    | none => none
    | some (ds, t, ρ1) => if ds.length = n then match F gs ds with
      | none => none
      | some (r, _) => if okm r.m then some (backR r t, ρ1) else none else none else none
  | _ => none
/-- the first argument is a list that is only read -/
def roOf : Option Slot → Option (List PyData)
  | some (.ro xs) => some xs
  | _ => none
def sCallR (n : Nat) (F : Fn) (i : Nat) (sa : SA) : SE := fun ρ => match roOf ρ[i]? with
  | none => none
  | some gs => match sa ρ with
    | none => none
    | some (ds, t, ρ1) => if ds.length = n then match F gs ds with
      | none => none
      | some (r, _) => if okm r.m then some (backR r t, ρ1) else none else none
def sCallK (n : Nat) (pe : List Nat) (F : Fn) (sa : SA) : SE := fun ρ => match sa ρ with
  | none => none
  | some (ds, t, ρ1) => if ds.length = n ∧ (pe.filterMap fun i => ds[i]?).length = n then match F [] (pe.filterMap fun i => ds[i]?) with
    | none => none
    | some (r, _) => if okm r.m then some (backR r t, ρ1) else none else none

theorem ft_none {C : Ctx} {N : Hp} {a : Addr} (h1 : N a = none) (h2 : C.FA a = none) (t : Bool) : Ft C N t a = none := by
  unfold Ft
  cases t with
  | false => exact h1
  | true =>
    simp only [if_true]
    unfold ov
    rw [h1]
    exact h2
section
variable {K : PySem.W.Frag} {C : Ctx} {N N2 H H' : Hp} {σ : St} {ρ : En} {v : V} {t : Bool} {r : Res} {g : Option Addr} {gs' : List PyData}
theorem EI.noFz (I : EI K C N H σ ρ) : NoFz (Ft C N t) := fun a o u => I.ftz t a o u
/-- behind a call: all but the lent list as it was -/
theorem EI.called {ρ' : En} (I : EI K C N H σ ρ) (P : Post g (Ft C N t) H r gs' v H' N2) (hm : okm r.m = true)
    (hg : ∀ a, g = some a → C.H0 a = none ∧ N a = none ∧ ∀ i : Nat, isOwn ρ[i]? → σ[i]? ≠ some (some (.ref a)))
    (hl : ρ'.length = ρ.length) (hs : ∀ (i : Nat) s, ρ'[i]? = some s → ρ[i]? = some s ∧ (nb s = true ∨ g = none ∨ (∀ a, g = some a → C.g ≠ some a)) ∨ ((s = .bor gs' ∨ s = .gen gs') ∧ g = C.g ∧ g ≠ none ∧ σ[i]? = some (g.map V.ref))) :
    EI K C (ov N2 N) H' σ ρ' ∧ Same N (ov N2 N) ∧ RO K C (ov N2 N) H' σ ρ' (backR r t) v ∧ (r.m = .fr → ∀ a, v = .ref a → H a = none) := by
  have dis : ∀ a o, N a = some o → N2 a = none := fun a o h => by
    cases q : N2 a with
    | none => rfl
    | some u =>
      have := P.nw a u q
      rw [I.n a o h] at this
      cases this
  have sN : Same N (ov N2 N) := fun a o h => by unfold ov; rw [dis a o h]; exact h
  have s2 : Same N2 (ov N2 N) := same_ov_l
  have own' : ∀ i : Nat, isOwn ρ'[i]? → isOwn ρ[i]? := fun i hi => by
    cases q : ρ'[i]? with
    | none => rw [q] at hi; exact hi.elim
    | some s =>
      rw [q] at hi
      rcases hs i s q with ⟨h, _⟩ | ⟨h | h, _⟩
      · rw [h]; exact hi
      · rw [h] at hi; exact hi.elim
      · rw [h] at hi; exact hi.elim
  have gne : ∀ a o, C.H0 a = some o → g ≠ some a := fun a o h e => by rw [(hg a e).1] at h; cases h
  have dd : ∀ a o, ov N2 N a = some o → C.FA a = none := fun a o h => by
    unfold ov at h
    cases q : N2 a with
    | none => rw [q] at h; exact I.dis a o h
    | some u => exact I.fa.free (I.h0.free (P.nw a u q))
  have I' : EI K C (ov N2 N) H' σ ρ' := by
    refine ⟨fun a o h => P.keep a o (I.h0 a o h) (gne a o h), I.fa, I.rs, fun a o h => ?_, fun a o h => ?_, I.nf, fun a o u h => ?_, fun g' e => ?_, hl.trans I.len, fun i s e => ?_, fun i j hij hi hj => I.ds i j hij (own' i hi) (own' j hj)⟩
    · unfold ov at h
      cases q : N2 a with
      | none =>
        rw [q] at h
        exact P.keep a o (I.n a o h) fun e => by rw [(hg a e).2.1] at h; cases h
      | some u => rw [q] at h; exact P.n a o (q.trans h)
    · unfold ov at h
      cases q : N2 a with
      | none => rw [q] at h; exact I.nn a o h
      | some u => exact I.h0.free (P.nw a u q)
    · unfold ov at h
      cases q : N2 a with
      | none => rw [q] at h; exact I.nz a o u h
      | some x => rw [q] at h; exact P.nz a o u (q.trans h)
    · obtain ⟨h1, h2, xs, h3⟩ := I.gg g' e
      refine ⟨h1, ?_, ?_⟩
      · unfold ov
        cases q : N2 g' with
        | none => exact h2
        | some u =>
          have := P.nw g' u q
          rw [h3] at this
          cases this
      · by_cases z : g = some g'
        · obtain ⟨ys, q, _⟩ := P.gl g' z
          exact ⟨ys, q⟩
        · exact ⟨xs, P.keep g' _ h3 z⟩
    · rcases hs i s e with ⟨h, hb⟩ | ⟨h, hgg, hgn, hσ⟩
      · have z := I.sl i s h
        have bor : ∀ xs, (s = .bor xs ∨ s = .gen xs) → (∃ a vs, σ[i]? = some (some (.ref a)) ∧ C.g = some a ∧ H a = some (.lst vs) ∧ DpAll [] nohp vs xs) → ∃ a vs, σ[i]? = some (some (.ref a)) ∧ C.g = some a ∧ H' a = some (.lst vs) ∧ DpAll [] nohp vs xs := fun xs hsx ⟨a, vs, e1, e2, e3, e4⟩ => by
          refine ⟨a, vs, e1, e2, P.keep a _ e3 fun q => ?_, e4⟩
          rcases hb with hb | hb | hb
          · rcases hsx with rfl | rfl <;> cases hb
          · rw [hb] at q; cases q
          · exact hb a q e2
        cases s with
        | un => trivial
        | val t' d =>
          obtain ⟨u, e1, e2⟩ := z
          exact ⟨u, e1, dp_mono (ft_grow sN dd t') _ _ e2⟩
        | own t' xs =>
          obtain ⟨a, vs, e1, e2, e3, e4, e5, e6⟩ := z
          refine ⟨a, vs, e1, P.keep a _ e2 (fun q => (hg a q).2.2 i (by rw [h]; trivial) e1), ?_, e4, e5, dpAll_mono (ft_grow sN dd t') _ _ e6⟩
          unfold ov
          cases q : N2 a with
          | none => exact e3
          | some u =>
            have := P.nw a u q
            rw [e2] at this
            cases this
        | bor xs => exact bor xs (.inl rfl) z
        | gen xs => exact bor xs (.inr rfl) z
        | ro xs => exact z
      · obtain ⟨a, ha⟩ := Option.ne_none_iff_exists'.mp hgn
        obtain ⟨ys, q, qd⟩ := P.gl a ha
        have f : ∃ a vs, σ[i]? = some (some (.ref a)) ∧ C.g = some a ∧ H' a = some (.lst vs) ∧ DpAll [] nohp vs gs' := ⟨a, ys, by rw [hσ, ha]; rfl, by rw [← hgg]; exact ha, q, qd⟩
        rcases h with rfl | rfl
        · exact f
        · exact f
  have ft : ∀ b : Bool, Same (if b then ov N2 (Ft C N t) else N2) (Ft C (ov N2 N) (b && t)) := fun b a o h => by
    cases b with
    | false => exact ft_le I'.dis _ _ _ (s2 a o h)
    | true =>
      simp only [if_true] at h
      rw [Bool.true_and]
      unfold ov at h
      cases q : N2 a with
      | some u => rw [q] at h; exact ft_le I'.dis _ _ _ (s2 a o (q.trans h))
      | none => rw [q] at h; exact ft_grow sN I'.dis t a o h
  have rf := P.rf
  obtain ⟨d, tr, m⟩ := r
  refine ⟨I', sN, ?_, ?_⟩
  · cases m with
    | sh => exact dp_mono (ft tr) _ _ rf
    | fr =>
      obtain ⟨a, vs, ds, e1, rfl, e2, e3, e4, e5⟩ := rf
      refine ⟨a, vs, ds, e1, rfl, e2, ?_, I.h0.free e4, I.gNot e4, fun i hi => I.ownNot e4 i (own' i hi), dpAll_mono (ft tr) _ _ e5⟩
      unfold ov
      rw [e3]
      exact I.n.free e4
    | pk => exact rf.elim
    | kk => exact rf.elim
  · intro e a ea
    cases m with
    | fr =>
      obtain ⟨b, vs, ds, _, e1, _, _, e4, _⟩ := rf
      rw [ea] at e1
      cases e1
      exact e4
    | sh => cases e
    | pk => cases e
    | kk => cases e
end

section
variable {X : Cx} {k n : Nat} {f : Addr} {fd : FuncData} {ps ks : List Str} {F : Fn} {x : Str} {p pos pg : Pos} {e eg : Expr} {es : List Expr} {kws : List Keyword} {sa : SA} {sg : SE} {i : Nat}
/-- f(e, ..): no list is lent -/
theorem d_call (h : FnG X.prog X.w X.K X.mg X.base k f fd ps (spF X.K .no n F)) (hr : Room k X.A) (hgd : X.A.guards = some []) (hg : Gl X x) (hm : X.mg x = some (.ref f)) (hk : PySem.W.keepIn X.K (.ref f) = true) (hb : Binds X.K fd ps [])
    (ha : DA X (e :: es) sa) (hdb : (x == ("__debug__" : Str)) = false := by decide) (he : starEach (e :: es) X.env = (false, eval e X.env) :: starEach es X.env := by rfl) (hpl : (backTo pos (starEach es X.env)).any (·.1) = false := by rfl) :
    DE X (.Call (.Name x p) (e :: es) [] pos) (sCall n F sa) :=
  PE.imp (pe_G h hr hgd hg hm hk hb ha hdb he hpl) fun σ H Q ⟨C, N, ρ, r, ρ', I, e, fin⟩ => by
    unfold sCall at e
    split at e
    · cases e
    · rename_i ds t ρ1 e1
      split at e
      · rename_i hl
        split at e
        · cases e
        · rename_i r' gs' e2
          split at e
          · rename_i hm
            cases e
            refine ⟨C, N, ρ, ds, t, _, I, e1, fun vs N1 H1 I1 k1 s1 dpa => ⟨none, Ft C N1 t, nohp, [], ds, [], vs, r', gs', rfl, hl, ⟨rfl, rfl, rfl⟩, I1.ftH t, same_no, I1.noFz, dpa, e2, fun v H' N2 P => ?_⟩⟩
            obtain ⟨J, s2, ro, nw⟩ := I1.called P hm (fun a z => nomatch z) rfl fun i s q => .inl ⟨q, .inr (.inl rfl)⟩
            exact (fin.after k1 s1) v _ H' J (fun a o q _ => P.keep a o q (fun z => nomatch z)) s2 ro nw
          · cases e
      · cases e
/-- f(g, e, ..): g is lent -/
theorem d_callB (h : FnG X.prog X.w X.K X.mg X.base k f fd ps (spF X.K .bo n F)) (hr : Room k X.A) (hgd : X.A.guards = some []) (hg : Gl X x) (hm : X.mg x = some (.ref f)) (hk : PySem.W.keepIn X.K (.ref f) = true) (hb : Binds X.K fd ps [])
    (hv : PE X eg (tVar i)) (ha : DA X es sa) (hdb : (x == ("__debug__" : Str)) = false := by decide) (he : starEach (eg :: es) X.env = (false, eval eg X.env) :: starEach es X.env := by rfl) (hpl : (backTo pos (starEach es X.env)).any (·.1) = false := by rfl) :
    DE X (.Call (.Name x p) (eg :: es) [] pos) (sCallB n F i sa) :=
  PE.imp (pe_G h hr hgd hg hm hk hb (pa_cons hv ha he) hdb he hpl) fun σ H Q ⟨C, N, ρ, r, ρ', I, e, fin⟩ => by
    unfold sCallB at e
    split at e
    · cases e
    · rename_i g0 e0
      split at e
      · cases e
      · rename_i ds t ρ1 e1
        split at e
        · rename_i hl
          split at e
          · cases e
          · rename_i gs eb
            split at e
            · cases e
            · rename_i r' gs' e2
              split at e
              · rename_i hm
                split at e
                · cases e
                · rename_i ρ2 e3
                  cases e
                  obtain ⟨a, vs0, z1, z2, z3, z4⟩ := bor_at I e0
                  refine ⟨_, z1, C, N, ρ, ds, t, _, I, e1, fun vs N1 H1 I1 k1 s1 dpa => ?_⟩
                  obtain ⟨a', xs, y1, y2, y3, y4⟩ := bor_at I1 eb
                  rw [z1] at y1
                  cases y1
                  obtain ⟨g1, g2, _⟩ := I1.gg a y2
                  have fta : Ft C N1 t a = none := by
                    cases q : Ft C N1 t a with
                    | none => rfl
                    | some o => exact absurd y2 (I1.ftg q)
                  refine ⟨some a, Ft C N1 t, nohp, gs, ds, [.ref a], vs, r', gs', rfl, hl, ⟨a, xs, rfl, rfl, fta, rfl, y3, y4⟩, I1.ftH t, same_no, I1.noFz, dpa, e2, fun v H' N2 P => ?_⟩
                  unfold lend at e3
                  split at e3
                  · rename_i s0 q0
                    split at e3
                    · rename_i hall
                      cases e3
                      have hi : i < ρ1.length := (List.getElem?_eq_some_iff.mp q0).1
                      have hall := List.all_eq_true.mp hall
                      obtain ⟨J, s2, ro, nw⟩ := I1.called (ρ' := ρ1.set i (reB gs' s0)) P hm (fun b z => by
                          cases z
                          exact ⟨g1, g2, fun j hj => fun y => by
                            cases q : ρ1[j]? with
                            | none => rw [q] at hj; exact hj
                            | some sl =>
                              rw [q] at hj
                              cases sl with
                              | own t' xs' =>
                                obtain ⟨b, ws, w1, _, _, _, w5, _⟩ := I1.sl j _ q
                                rw [y] at w1
                                cases w1
                                exact w5 y2
                              | un => exact hj
                              | val _ _ => exact hj
                              | bor _ => exact hj
                              | gen _ => exact hj
                              | ro _ => exact hj⟩) (List.length_set) fun j s q => by
                        by_cases hj : j = i
                        · subst hj
                          rw [List.getElem?_set_self hi] at q
                          cases q
                          refine .inr ⟨?_, y2.symm, (fun z => nomatch z), z1⟩
                          rw [q0] at eb
                          cases s0 with
                          | bor _ => exact .inl rfl
                          | gen _ => exact .inr rfl
                          | un => cases eb
                          | val _ _ => cases eb
                          | own _ _ => cases eb
                          | ro _ => cases eb
                        · have q' := q
                          rw [List.getElem?_set_ne (Ne.symm hj)] at q
                          refine .inl ⟨q, .inl (hall s (List.mem_of_getElem? (i := j) ?_))⟩
                          rw [List.getElem?_set_ne (Ne.symm hj)]
                          exact q
                      exact (fin.after k1 s1) v _ H' J (fun b o q hg => P.keep b o q (fun z => hg (y2.trans z))) s2 ro nw
                    · cases e3
                  · cases e3
              · cases e
        · cases e
/-- f(e0, e, ..): e0 a new list, lent -/
theorem d_callT (h : FnG X.prog X.w X.K X.mg X.base k f fd ps (spF X.K .bo n F)) (hr : Room k X.A) (hgd : X.A.guards = some []) (hg : Gl X x) (hm : X.mg x = some (.ref f)) (hk : PySem.W.keepIn X.K (.ref f) = true) (hb : Binds X.K fd ps [])
    (hv : DE X eg sg) (ha : DA X es sa) (hdb : (x == ("__debug__" : Str)) = false := by decide) (he : starEach (eg :: es) X.env = (false, eval eg X.env) :: starEach es X.env := by rfl) (hpl : (backTo pos (starEach es X.env)).any (·.1) = false := by rfl) :
    DE X (.Call (.Name x p) (eg :: es) [] pos) (sCallT n F sg sa) :=
  PE.imp (pe_G h hr hgd hg hm hk hb (pa_cons hv ha he) hdb he hpl) fun σ H Q ⟨C, N, ρ, r, ρ', I, e, fin⟩ => by
    unfold sCallT at e
    split at e
    · rename_i gs tg ρ0 e0
      split at e
      · rename_i hsc
        split at e
        · cases e
        · rename_i ds t ρ1 e1
          split at e
          · rename_i hl
            split at e
            · cases e
            · rename_i r' gs' e2
              split at e
              · rename_i hm
                cases e
                refine ⟨C, N, ρ, _, ρ0, I, e0, fun v0 N0 H0 I0 k0 s0 ro0 nw0 => ?_⟩
                obtain ⟨a, vs0, ds0, w0, rfl, w2, w3, w4, w5, w6, w7⟩ := ro0
                cases w0
                have na : H a = none := nw0 rfl a rfl
                have IG := I0.guard w2 w4 w3 w5 w6
                refine ⟨C.guard a (.lst vs0), N0, ρ0, ds, t, _, IG, e1, fun vs N1 H1 I1' k1 s1 dpa => ?_⟩
                obtain ⟨I1, hD, nD, gD, oD⟩ := I1'.unguard w4 I0.fa I0.rs
                have dpa : DpAll [] (Ft C N1 t) vs ds := dpa
                have fta : Ft C N1 t a = none := ft_none nD (I0.fa.free w4) t
                refine ⟨some a, Ft C N1 t, nohp, gs, ds, [.ref a], vs, r', gs', rfl, hl, ⟨a, vs0, rfl, rfl, fta, rfl, hD, dpAll_sc hsc w7⟩, I1.ftH t, same_no, I1.noFz, dpa, e2, fun v H' N2 P => ?_⟩
                obtain ⟨J, s2, ro, nw⟩ := I1.called P hm (fun b z => by cases z; exact ⟨w4, nD, oD⟩) rfl fun j s q => .inl ⟨q, .inr (.inr fun b z => by cases z; exact gD)⟩
                refine fin v _ H' J (fun b o q hgb => ?_) (s0.trans (s1.trans s2)) ro fun em b eb => ?_
                · have hba : b ≠ a := ne_of_none q na
                  exact P.keep b o (k1 b o (k0 b o q hgb) hgb) fun z => hba (Option.some.inj z).symm
                · have n1 := nw em b eb
                  cases q : H b with
                  | none => rfl
                  | some o =>
                    have hgb : C.g ≠ some b := I1.gNot n1
                    have := k1 b o (k0 b o q hgb) hgb
                    rw [n1] at this
                    cases this
              · cases e
          · cases e
      · cases e
    · cases e
/-- f(script, e, ..) -/
theorem d_callR (h : FnG X.prog X.w X.K X.mg X.base k f fd ps (spF X.K .rd n F)) (hr : Room k X.A) (hgd : X.A.guards = some []) (hg : Gl X x) (hm : X.mg x = some (.ref f)) (hk : PySem.W.keepIn X.K (.ref f) = true) (hb : Binds X.K fd ps [])
    (hv : PE X eg (tVar i)) (ha : DA X es sa) (hdb : (x == ("__debug__" : Str)) = false := by decide) (he : starEach (eg :: es) X.env = (false, eval eg X.env) :: starEach es X.env := by rfl) (hpl : (backTo pos (starEach es X.env)).any (·.1) = false := by rfl) :
    DE X (.Call (.Name x p) (eg :: es) [] pos) (sCallR n F i sa) :=
  PE.imp (pe_G h hr hgd hg hm hk hb (pa_cons hv ha he) hdb he hpl) fun σ H Q ⟨C, N, ρ, r, ρ', I, e, fin⟩ => by
    unfold sCallR at e
    split at e
    · cases e
    · rename_i gs e0
      split at e
      · cases e
      · rename_i ds t ρ1 e1
        split at e
        · rename_i hl
          split at e
          · cases e
          · rename_i r' gs' e2
            split at e
            · rename_i hm
              cases e
              have z : ∃ a vs, σ[i]? = some (some (.ref a)) ∧ SqL X.K C.R a vs ∧ DpAll [] nohp vs gs := by
                cases q : ρ[i]? with
                | none => rw [q] at e0; cases e0
                | some sl =>
                  rw [q] at e0
                  cases sl with
                  | ro xs => cases e0; exact I.sl i _ q
                  | un => cases e0
                  | val _ _ => cases e0
                  | own _ _ => cases e0
                  | bor _ => cases e0
                  | gen _ => cases e0
              obtain ⟨a, xs, z1, z2, z3⟩ := z
              refine ⟨_, z1, C, N, ρ, ds, t, _, I, e1, fun vs N1 H1 I1 k1 s1 dpa => ⟨none, Ft C N1 t, C.R, gs, ds, [.ref a], vs, r', gs', rfl, hl, ⟨a, xs, rfl, rfl, z2, z3⟩, I1.ftH t, I1.rs.trans I1.h0, I1.noFz, dpa, e2, fun v H' N2 P => ?_⟩⟩
              obtain ⟨J, s2, ro, nw⟩ := I1.called P hm (fun a z => nomatch z) rfl fun i s q => .inl ⟨q, .inr (.inl rfl)⟩
              exact (fin.after k1 s1) v _ H' J (fun a o q _ => P.keep a o q (fun z => nomatch z)) s2 ro nw
            · cases e
        · cases e
/-! ### calls by names -/
abbrev DK (X : Cx) (e : List Keyword) (s : SA) : Prop := PK X e (tA X.K s)
theorem PK.imp {X : Cx} {e : List Keyword} {t t' : TA} (h : PK X e t) (i : ∀ σ H Q, t' σ H Q → t σ H Q) : PK X e t' :=
  ⟨fun pos pins s σ H Q I hw => h.run pos pins s σ H Q I (i σ H Q hw)⟩
theorem dk_nil : DK X [] sANil := PK.imp pk_nil fun σ H Q ⟨C, N, ρ, ds, t, ρ', I, e, fin⟩ => by
  cases e
  exact fin [] N H I .refl (Same.refl _) .nil
theorem dk_cons {nm : Option Str} {kpos : Pos} {s : SE} (ha : DE X e s) (hr : DK X kws sa) : DK X (⟨nm, e, kpos⟩ :: kws) (sACons s sa) := PK.imp (pk_cons ha hr) fun _ _ _ h => da_t h
theorem perm_dp {H : Hp} {vs : List V} {ds : List PyData} (h : DpAll [] H vs ds) : ∀ pe : List Nat, DpAll [] H (pe.filterMap fun i => vs[i]?) (pe.filterMap fun i => ds[i]?)
  | [] => .nil
  | i :: pe => by
    rw [List.filterMap_cons, List.filterMap_cons]
    cases q : vs[i]? with
    | none =>
      have : ds[i]? = none := by
        rw [List.getElem?_eq_none_iff] at q ⊢
        rw [← h.len]; exact q
      rw [this]
      exact perm_dp h pe
    | some z =>
      obtain ⟨d, e, dp⟩ := h.get q
      rw [e]
      exact .cons dp (perm_dp h pe)
theorem d_callK {pe : List Nat} (h : FnG X.prog X.w X.K X.mg X.base k f fd ps (spF X.K .no n F)) (hr : Room k X.A) (hgd : X.A.guards = some []) (hg : Gl X x) (hm : X.mg x = some (.ref f)) (hk : PySem.W.keepIn X.K (.ref f) = true) (hb : KWB X.K fd ps ks pe)
    (ha : DK X kws sa) (hn : ks.length = n) (hall : (backToKw pos (keywordEach kws X.env)).all (·.1.isSome) = true := by rfl) (hks : (backToKw pos (keywordEach kws X.env)).filterMap (·.1) = ks := by rfl)
    (hdb : (x == ("__debug__" : Str)) = false := by decide) (hpl : ((backTo pos (starEach [] X.env)).any (·.1) || (backToKw pos (keywordEach kws X.env)).any (·.1.isNone)) = false := by rfl) :
    DE X (.Call (.Name x p) [] kws pos) (sCallK n pe F sa) :=
  PE.imp (pe_GK h hr hgd hg hm hk hb ha hall hks hdb hpl) fun σ H Q ⟨C, N, ρ, r, ρ', I, e, fin⟩ => by
    unfold sCallK at e
    split at e
    · cases e
    · rename_i ds t ρ1 e1
      split at e
      · rename_i hl
        split at e
        · cases e
        · rename_i r' gs' e2
          split at e
          · rename_i hm
            cases e
            refine ⟨C, N, ρ, ds, t, _, I, e1, fun vs N1 H1 I1 k1 s1 dpa => ⟨by rw [dpa.len, hl.1, hn], none, Ft C N1 t, nohp, [], _, [], _, r', gs', rfl, hl.2, ⟨rfl, rfl, rfl⟩, I1.ftH t, same_no, I1.noFz, perm_dp dpa pe, e2, fun v H' N2 P => ?_⟩⟩
            obtain ⟨J, s2, ro, nw⟩ := I1.called P hm (fun a z => nomatch z) rfl fun i s q => .inl ⟨q, .inr (.inl rfl)⟩
            exact (fin.after k1 s1) v _ H' J (fun a o q _ => P.keep a o q (fun z => nomatch z)) s2 ro nw
          · cases e
      · cases e
end
end Ev
/-! Ev: calls whose arguments stay their owners' (the result may not hold them). -/
namespace Ev
open PySem PySem.Spec L2

/-- what may be looked at while a call runs -/
def pkH (C : Ctx) (H : Hp) : Hp := fun a => if C.g = some a then none else match H a with
  | some (.frz _ _) => none
  | o => o
def FAo (C : Ctx) (N H : Hp) : Option Bool → Hp
  | none => pkH C H
  | some t => Ft C N t
def backQ (r : Res) : Option Bool → Option Res
  | none => if okm r.m && !r.t then some r else none
  | some t => if okm r.m then some (backR r t) else none
abbrev SP := En → Option (List PyData × En)
abbrev SQ := En → Option (List PyData × Option Bool × En)
def sPNil : SP := fun ρ => some ([], ρ)
def nkk : Md → Bool
  | .kk => false
  | _ => true
def sPCons (s : SE) (sa : SP) : SP := fun ρ => match s ρ with
  | none => none
  | some (r, ρ1) => if nkk r.m then match sa ρ1 with
    | none => none
    | some (ds, ρ2) => some (r.d :: ds, ρ2) else none
def qS (s : SA) : SQ := fun ρ => match s ρ with
  | none => none
  | some (ds, t, ρ1) => some (ds, some t, ρ1)
def qP (s : SP) : SQ := fun ρ => match s ρ with
  | none => none
  | some (ds, ρ1) => some (ds, none, ρ1)
def tP (K : PySem.W.Frag) (s : SP) : TA := fun σ H Q => ∃ C N ρ ds ρ', EI K C N H σ ρ ∧ s ρ = some (ds, ρ') ∧
  ∀ vs N' H', EI K C N' H' σ ρ' → Keep C H H' → Same N N' → DpAll [] (pkH C H') vs ds → Q vs H'
def tQ (K : PySem.W.Frag) (s : SQ) : TA := fun σ H Q => ∃ C N ρ ds t ρ', EI K C N H σ ρ ∧ s ρ = some (ds, t, ρ') ∧
  ∀ vs N' H', EI K C N' H' σ ρ' → Keep C H H' → Same N N' → DpAll [] (FAo C N' H' t) vs ds → Q vs H'
abbrev DP (X : Cx) (e : List Expr) (s : SP) : Prop := PA X e (tP X.K s)
abbrev DQ (X : Cx) (e : List Expr) (s : SQ) : Prop := PA X e (tQ X.K s)
abbrev DKP (X : Cx) (e : List Keyword) (s : SP) : Prop := PK X e (tP X.K s)
abbrev DKQ (X : Cx) (e : List Keyword) (s : SQ) : Prop := PK X e (tQ X.K s)
section
variable {K : PySem.W.Frag} {C : Ctx} {N N2 H H' : Hp} {σ : St} {ρ : En} {v : V} {r : Res} {g : Option Addr} {gs' : List PyData}
theorem EI.pk (I : EI K C N H σ ρ) (t : Bool) : Same (Ft C N t) (pkH C H) := fun a o h => by
  unfold pkH
  rw [if_neg (I.ftg h)]
  have q := I.ftH t a o h
  rw [q]
  cases o with
  | frz u x => exact absurd h (I.ftz t a u x)
  | _ => rfl
theorem EI.pkD (I : EI K C N H σ ρ) {d : PyData} {t : Bool} (h : RT C N H t v d) : Dp [] (pkH C H) v d := by
  cases d with
  | list ds =>
    obtain ⟨a, vs, rfl, e2, e3, e4⟩ := h
    refine .lst (.inl (.inl ?_)) (dpAll_mono (I.pk t) _ _ e4)
    unfold pkH
    rw [if_neg e3, e2]
  | none => exact dp_mono (I.pk t) _ _ h
  | bool _ => exact dp_mono (I.pk t) _ _ h
  | int _ => exact dp_mono (I.pk t) _ _ h
  | str _ => exact dp_mono (I.pk t) _ _ h
  | tuple _ => exact dp_mono (I.pk t) _ _ h
  | dict _ => exact dp_mono (I.pk t) _ _ h
theorem pkH_le : Same (pkH C H) H := fun a o h => by
  unfold pkH at h
  split at h
  · cases h
  · split at h
    · cases h
    · exact h
theorem pkH_fz : NoFz (pkH C H) := fun a o u h => by
  unfold pkH at h
  split at h
  · cases h
  · split at h
    · cases h
    · rename_i z
      exact z _ _ h
theorem EI.faoH (I : EI K C N H σ ρ) (t : Option Bool) : Same (FAo C N H t) H := by
  cases t with
  | none => exact pkH_le
  | some t => exact I.ftH t
theorem EI.faoZ (I : EI K C N H σ ρ) (t : Option Bool) : NoFz (FAo C N H t) := by
  cases t with
  | none => exact pkH_fz
  | some t => exact I.noFz
theorem EI.faoG (I : EI K C N H σ ρ) (t : Option Bool) {a : Addr} (e : C.g = some a) : FAo C N H t a = none := by
  cases t with
  | none =>
    show pkH C H a = none
    unfold pkH
    rw [if_pos e]
  | some t =>
    show Ft C N t a = none
    cases q : Ft C N t a with
    | none => rfl
    | some o => exact absurd e (I.ftg q)
theorem Post.any {FA FA' : Hp} (P : Post g FA H r gs' v H' N2) (h : r.t = false) : Post g FA' H r gs' v H' N2 := by
  refine ⟨P.keep, P.n, P.nw, P.nz, P.gl, ?_⟩
  have := P.rf
  unfold RF at this ⊢
  rw [h] at this ⊢
  exact this
theorem backQ_ok {t : Option Bool} {r' : Res} (e : backQ r t = some r') : okm r.m = true := by
  unfold backQ at e
  split at e
  · split at e
    · rename_i h
      exact (Bool.and_eq_true _ _ ▸ h).1
    · cases e
  · split at e
    · assumption
    · cases e
theorem EI.calledQ {ρ' : En} {t : Option Bool} {r' : Res} (I : EI K C N H σ ρ) (P : Post g (FAo C N H t) H r gs' v H' N2) (hm : backQ r t = some r')
    (hg : ∀ a, g = some a → C.H0 a = none ∧ N a = none ∧ ∀ i : Nat, isOwn ρ[i]? → σ[i]? ≠ some (some (.ref a)))
    (hl : ρ'.length = ρ.length) (hs : ∀ (i : Nat) s, ρ'[i]? = some s → ρ[i]? = some s ∧ (nb s = true ∨ g = none ∨ (∀ a, g = some a → C.g ≠ some a)) ∨ ((s = .bor gs' ∨ s = .gen gs') ∧ g = C.g ∧ g ≠ none ∧ σ[i]? = some (g.map V.ref))) :
    EI K C (ov N2 N) H' σ ρ' ∧ Same N (ov N2 N) ∧ RO K C (ov N2 N) H' σ ρ' r' v ∧ (r'.m = .fr → ∀ a, v = .ref a → H a = none) := by
  have ok := backQ_ok hm
  cases t with
  | some t =>
    have hm : (if okm r.m then some (backR r t) else none) = some r' := hm
    rw [if_pos ok] at hm
    cases hm
    exact I.called P ok hg hl hs
  | none =>
    have hm : (if okm r.m && !r.t then some r else none) = some r' := hm
    split at hm
    · rename_i z
      cases hm
      have hz : r.t = false := by
        have := (Bool.and_eq_true _ _ ▸ z).2
        simpa using this
      have := I.called (P.any (FA' := Ft C N false) hz) ok hg hl hs
      obtain ⟨d, tt, m⟩ := r
      cases hz
      exact this
    · cases hm
end
section
variable {X : Cx} {pos : Pos} {e : Expr} {es : List Expr} {kws : List Keyword} {s : SE} {sp : SP} {sa : SA}
theorem dp_t {σ : St} {H : Hp} {Q : List V → Hp → Prop} (h : tP X.K (sPCons s sp) σ H Q) : tCons (tF X.K s) (tP X.K sp) σ H Q := by
  obtain ⟨C, N, ρ, ds, ρ', I, e, fin⟩ := h
  unfold sPCons at e
  split at e
  · cases e
  · rename_i r ρ1 e1
    split at e
    · rename_i hm
      split at e
      · cases e
      · rename_i ds2 ρ2 e2
        cases e
        refine ⟨C, N, ρ, r, ρ1, I, e1, fun v N1 H1 I1 k1 s1 ro nw => ⟨C, N1, ρ1, ds2, _, I1, e2, fun vs N3 H3 I3 k3 s3 dpa => ?_⟩⟩
        have ra := (I1.ra ro).keep k3 s3 I3.dis
        exact fin (v :: vs) N3 H3 I3 (k1.trans k3) (s1.trans s3) (.cons (I3.pkD (ra.rt fun z => by rw [z] at hm; cases hm)) dpa)
    · cases e
theorem dp_nil : DP X [] sPNil := PA.imp pa_nil fun σ H Q ⟨C, N, ρ, ds, ρ', I, e, fin⟩ => by
  cases e
  exact fin [] N H I .refl (Same.refl _) .nil
theorem dp_cons (ha : DE X e s) (hr : DP X es sp) (hs : starEach (e :: es) X.env = (false, eval e X.env) :: starEach es X.env := by rfl) : DP X (e :: es) (sPCons s sp) :=
  PA.imp (pa_cons ha hr hs) fun _ _ _ h => dp_t h
theorem dkp_nil : DKP X [] sPNil := PK.imp pk_nil fun σ H Q ⟨C, N, ρ, ds, ρ', I, e, fin⟩ => by
  cases e
  exact fin [] N H I .refl (Same.refl _) .nil
theorem dkp_cons {nm : Option Str} {kpos : Pos} (ha : DE X e s) (hr : DKP X kws sp) : DKP X (⟨nm, e, kpos⟩ :: kws) (sPCons s sp) := PK.imp (pk_cons ha hr) fun _ _ _ h => dp_t h
theorem q_P {σ : St} {H : Hp} {Q : List V → Hp → Prop} (h : tQ X.K (qP sp) σ H Q) : tP X.K sp σ H Q := by
  obtain ⟨C, N, ρ, ds, t, ρ', I, e, fin⟩ := h
  unfold qP at e
  split at e
  · cases e
  · rename_i e1
    cases e
    exact ⟨C, N, ρ, ds, _, I, e1, fin⟩
theorem q_S {σ : St} {H : Hp} {Q : List V → Hp → Prop} (h : tQ X.K (qS sa) σ H Q) : tA X.K sa σ H Q := by
  obtain ⟨C, N, ρ, ds, t, ρ', I, e, fin⟩ := h
  unfold qS at e
  split at e
  · cases e
  · rename_i e1
    cases e
    exact ⟨C, N, ρ, ds, _, _, I, e1, fin⟩
theorem dq_P (h : DP X es sp) : DQ X es (qP sp) := PA.imp h fun _ _ _ z => q_P z
theorem dq_S (h : DA X es sa) : DQ X es (qS sa) := PA.imp h fun _ _ _ z => q_S z
theorem dkq_P (h : DKP X kws sp) : DKQ X kws (qP sp) := PK.imp h fun _ _ _ z => q_P z
theorem dkq_S (h : DK X kws sa) : DKQ X kws (qS sa) := PK.imp h fun _ _ _ z => q_S z
end

def qCall (n : Nat) (F : Fn) (sa : SQ) : SE := fun ρ => match sa ρ with
  | none => none
  | some (ds, t, ρ1) => if ds.length = n then match F [] ds with
    | none => none
    | some (r, _) => match backQ r t with
      | none => none
      | some r' => some (r', ρ1) else none
def qCall0 (F : Fn) : SE := fun ρ => match F [] [] with
  | none => none
  | some (r, _) => match backQ r none with
    | none => none
    | some r' => some (r', ρ)
def qCallB (n : Nat) (F : Fn) (i : Nat) (sa : SQ) : SE := fun ρ => match borOf ρ[i]? with
  | none => none
  | some _ => match sa ρ with
    | none => none
    | some (ds, t, ρ1) => if ds.length = n then match borOf ρ1[i]? with
      | none => none
      | some gs => match F gs ds with
        | none => none
        | some (r, gs') => match backQ r t with
          | none => none
          | some r' => match lend i gs' ρ1 with
            | none => none
            | some ρ2 => some (r', ρ2) else none
def qCallR (n : Nat) (F : Fn) (i : Nat) (sa : SQ) : SE := fun ρ => match roOf ρ[i]? with
  | none => none
  | some gs => match sa ρ with
    | none => none
    | some (ds, t, ρ1) => if ds.length = n then match F gs ds with
      | none => none
      | some (r, _) => match backQ r t with
        | none => none
        | some r' => some (r', ρ1) else none
def qCallK (n : Nat) (pe : List Nat) (F : Fn) (sa : SQ) : SE := fun ρ => match sa ρ with
  | none => none
  | some (ds, t, ρ1) => if ds.length = n ∧ (pe.filterMap fun i => ds[i]?).length = n then match F [] (pe.filterMap fun i => ds[i]?) with
    | none => none
    | some (r, _) => match backQ r t with
      | none => none
      | some r' => some (r', ρ1) else none
section
variable {X : Cx} {k n : Nat} {f : Addr} {fd : FuncData} {ps ks : List Str} {F : Fn} {x : Str} {p pos pg : Pos} {e eg : Expr} {es : List Expr} {kws : List Keyword} {sa : SQ} {sg : SE} {i : Nat}
theorem e_call (h : FnG X.prog X.w X.K X.mg X.base k f fd ps (spF X.K .no n F)) (hr : Room k X.A) (hgd : X.A.guards = some []) (hg : Gl X x) (hm : X.mg x = some (.ref f)) (hk : PySem.W.keepIn X.K (.ref f) = true) (hb : Binds X.K fd ps [])
    (ha : DQ X (e :: es) sa) (hdb : (x == ("__debug__" : Str)) = false := by decide) (he : starEach (e :: es) X.env = (false, eval e X.env) :: starEach es X.env := by rfl) (hpl : (backTo pos (starEach es X.env)).any (·.1) = false := by rfl) :
    DE X (.Call (.Name x p) (e :: es) [] pos) (qCall n F sa) :=
  PE.imp (pe_G h hr hgd hg hm hk hb ha hdb he hpl) fun σ H Q ⟨C, N, ρ, r, ρ', I, e, fin⟩ => by
    unfold qCall at e
    split at e
    · cases e
    · rename_i ds t ρ1 e1
      split at e
      · rename_i hl
        split at e
        · cases e
        · rename_i r0 gs' e2
          split at e
          · cases e
          · rename_i r1 hm
            cases e
            refine ⟨C, N, ρ, ds, t, _, I, e1, fun vs N1 H1 I1 k1 s1 dpa => ⟨none, FAo C N1 H1 t, nohp, [], ds, [], vs, r0, gs', rfl, hl, ⟨rfl, rfl, rfl⟩, I1.faoH t, same_no, I1.faoZ t, dpa, e2, fun v H' N2 P => ?_⟩⟩
            obtain ⟨J, s2, ro, nw⟩ := I1.calledQ P hm (fun a z => nomatch z) rfl fun i s q => .inl ⟨q, .inr (.inl rfl)⟩
            exact (fin.after k1 s1) v _ H' J (fun a o q _ => P.keep a o q (fun z => nomatch z)) s2 ro nw
      · cases e
theorem e_call0 (h : FnG X.prog X.w X.K X.mg X.base k f fd ps (spF X.K .no 0 F)) (hr : Room k X.A) (hgd : X.A.guards = some []) (hg : Gl X x) (hm : X.mg x = some (.ref f)) (hk : PySem.W.keepIn X.K (.ref f) = true) (hb : Binds X.K fd ps [])
    (hdb : (x == ("__debug__" : Str)) = false := by decide) : DE X (.Call (.Name x p) [] [] pos) (qCall0 F) :=
  PE.imp (pe_G0 h hr hgd hg hm hk hb hdb) fun σ H Q ⟨C, N, ρ, r, ρ', I, e, fin⟩ => by
    unfold qCall0 at e
    split at e
    · cases e
    · rename_i r0 gs' e2
      split at e
      · cases e
      · rename_i r1 hm
        cases e
        refine ⟨none, FAo C N H none, nohp, [], [], [], [], r0, gs', rfl, rfl, ⟨rfl, rfl, rfl⟩, I.faoH none, same_no, I.faoZ none, .nil, e2, fun v H' N2 P => ?_⟩
        obtain ⟨J, s2, ro, nw⟩ := I.calledQ P hm (fun a z => nomatch z) rfl fun i s q => .inl ⟨q, .inr (.inl rfl)⟩
        exact fin v _ H' J (fun a o q _ => P.keep a o q (fun z => nomatch z)) s2 ro nw
theorem e_callB (h : FnG X.prog X.w X.K X.mg X.base k f fd ps (spF X.K .bo n F)) (hr : Room k X.A) (hgd : X.A.guards = some []) (hg : Gl X x) (hm : X.mg x = some (.ref f)) (hk : PySem.W.keepIn X.K (.ref f) = true) (hb : Binds X.K fd ps [])
    (hv : PE X eg (tVar i)) (ha : DQ X es sa) (hdb : (x == ("__debug__" : Str)) = false := by decide) (he : starEach (eg :: es) X.env = (false, eval eg X.env) :: starEach es X.env := by rfl) (hpl : (backTo pos (starEach es X.env)).any (·.1) = false := by rfl) :
    DE X (.Call (.Name x p) (eg :: es) [] pos) (qCallB n F i sa) :=
  PE.imp (pe_G h hr hgd hg hm hk hb (pa_cons hv ha he) hdb he hpl) fun σ H Q ⟨C, N, ρ, r, ρ', I, e, fin⟩ => by
    unfold qCallB at e
    split at e
    · cases e
    · rename_i g0 e0
      split at e
      · cases e
      · rename_i ds t ρ1 e1
        split at e
        · rename_i hl
          split at e
          · cases e
          · rename_i gs eb
            split at e
            · cases e
            · rename_i r0 gs' e2
              split at e
              · cases e
              · rename_i r1 hm
                split at e
                · cases e
                · rename_i ρ2 e3
                  cases e
                  obtain ⟨a, vs0, z1, z2, z3, z4⟩ := bor_at I e0
                  refine ⟨_, z1, C, N, ρ, ds, t, _, I, e1, fun vs N1 H1 I1 k1 s1 dpa => ?_⟩
                  obtain ⟨a', xs, y1, y2, y3, y4⟩ := bor_at I1 eb
                  rw [z1] at y1
                  cases y1
                  obtain ⟨g1, g2, _⟩ := I1.gg a y2
                  refine ⟨some a, FAo C N1 H1 t, nohp, gs, ds, [.ref a], vs, r0, gs', rfl, hl, ⟨a, xs, rfl, rfl, I1.faoG t y2, rfl, y3, y4⟩, I1.faoH t, same_no, I1.faoZ t, dpa, e2, fun v H' N2 P => ?_⟩
                  unfold lend at e3
                  split at e3
                  · rename_i s0 q0
                    split at e3
                    · rename_i hall
                      cases e3
                      have hi : i < ρ1.length := (List.getElem?_eq_some_iff.mp q0).1
                      have hall := List.all_eq_true.mp hall
                      have free : ∀ j : Nat, isOwn ρ1[j]? → σ[j]? ≠ some (some (.ref a)) := fun j hj y => by
                        cases q : ρ1[j]? with
                        | none => rw [q] at hj; exact hj
                        | some sl =>
                          rw [q] at hj
                          cases sl with
                          | own t' xs' =>
                            obtain ⟨b, ws, w1, _, _, _, w5, _⟩ := I1.sl j _ q
                            rw [y] at w1
                            cases w1
                            exact w5 y2
                          | un => exact hj
                          | val _ _ => exact hj
                          | bor _ => exact hj
                          | gen _ => exact hj
                          | ro _ => exact hj
                      have back : ∀ (j : Nat) s, (ρ1.set i (reB gs' s0))[j]? = some s → ρ1[j]? = some s ∧ (nb s = true ∨ some a = none ∨ (∀ b, some a = some b → C.g ≠ some b)) ∨ ((s = .bor gs' ∨ s = .gen gs') ∧ some a = C.g ∧ some a ≠ none ∧ σ[j]? = some ((some a).map V.ref)) := fun j s q => by
                        by_cases hj : j = i
                        · subst hj
                          rw [List.getElem?_set_self hi] at q
                          cases q
                          refine .inr ⟨?_, y2.symm, (fun z => nomatch z), z1⟩
                          rw [q0] at eb
                          cases s0 with
                          | bor _ => exact .inl rfl
                          | gen _ => exact .inr rfl
                          | un => cases eb
                          | val _ _ => cases eb
                          | own _ _ => cases eb
                          | ro _ => cases eb
                        · have q' := q
                          rw [List.getElem?_set_ne (Ne.symm hj)] at q
                          refine .inl ⟨q, .inl (hall s (List.mem_of_getElem? (i := j) ?_))⟩
                          rw [List.getElem?_set_ne (Ne.symm hj)]
                          exact q
                      obtain ⟨J, s2, ro, nw⟩ := I1.calledQ (ρ' := ρ1.set i (reB gs' s0)) P hm (fun b z => by cases z; exact ⟨g1, g2, free⟩) (List.length_set) back
                      exact (fin.after k1 s1) v _ H' J (fun b o q hg => P.keep b o q (fun z => hg (y2.trans z))) s2 ro nw
                    · cases e3
                  · cases e3
        · cases e
theorem e_callR (h : FnG X.prog X.w X.K X.mg X.base k f fd ps (spF X.K .rd n F)) (hr : Room k X.A) (hgd : X.A.guards = some []) (hg : Gl X x) (hm : X.mg x = some (.ref f)) (hk : PySem.W.keepIn X.K (.ref f) = true) (hb : Binds X.K fd ps [])
    (hv : PE X eg (tVar i)) (ha : DQ X es sa) (hdb : (x == ("__debug__" : Str)) = false := by decide) (he : starEach (eg :: es) X.env = (false, eval eg X.env) :: starEach es X.env := by rfl) (hpl : (backTo pos (starEach es X.env)).any (·.1) = false := by rfl) :
    DE X (.Call (.Name x p) (eg :: es) [] pos) (qCallR n F i sa) :=
  PE.imp (pe_G h hr hgd hg hm hk hb (pa_cons hv ha he) hdb he hpl) fun σ H Q ⟨C, N, ρ, r, ρ', I, e, fin⟩ => by
    unfold qCallR at e
    split at e
    · cases e
    · rename_i gs e0
      split at e
      · cases e
      · rename_i ds t ρ1 e1
        split at e
        · rename_i hl
          split at e
          · cases e
          · rename_i r0 gs' e2
            split at e
            · cases e
            · rename_i r1 hm
              cases e
              have z : ∃ a vs, σ[i]? = some (some (.ref a)) ∧ SqL X.K C.R a vs ∧ DpAll [] nohp vs gs := by
                cases q : ρ[i]? with
                | none => rw [q] at e0; cases e0
                | some sl =>
                  rw [q] at e0
                  cases sl with
                  | ro xs => cases e0; exact I.sl i _ q
                  | un => cases e0
                  | val _ _ => cases e0
                  | own _ _ => cases e0
                  | bor _ => cases e0
                  | gen _ => cases e0
              obtain ⟨a, xs, z1, z2, z3⟩ := z
              refine ⟨_, z1, C, N, ρ, ds, t, _, I, e1, fun vs N1 H1 I1 k1 s1 dpa => ⟨none, FAo C N1 H1 t, C.R, gs, ds, [.ref a], vs, r0, gs', rfl, hl, ⟨a, xs, rfl, rfl, z2, z3⟩, I1.faoH t, I1.rs.trans I1.h0, I1.faoZ t, dpa, e2, fun v H' N2 P => ?_⟩⟩
              obtain ⟨J, s2, ro, nw⟩ := I1.calledQ P hm (fun a z => nomatch z) rfl fun i s q => .inl ⟨q, .inr (.inl rfl)⟩
              exact (fin.after k1 s1) v _ H' J (fun a o q _ => P.keep a o q (fun z => nomatch z)) s2 ro nw
        · cases e
theorem e_callK {pe : List Nat} (h : FnG X.prog X.w X.K X.mg X.base k f fd ps (spF X.K .no n F)) (hr : Room k X.A) (hgd : X.A.guards = some []) (hg : Gl X x) (hm : X.mg x = some (.ref f)) (hk : PySem.W.keepIn X.K (.ref f) = true) (hb : KWB X.K fd ps ks pe)
    (ha : DKQ X kws sa) (hn : ks.length = n) (hall : (backToKw pos (keywordEach kws X.env)).all (·.1.isSome) = true := by rfl) (hks : (backToKw pos (keywordEach kws X.env)).filterMap (·.1) = ks := by rfl)
    (hdb : (x == ("__debug__" : Str)) = false := by decide) (hpl : ((backTo pos (starEach [] X.env)).any (·.1) || (backToKw pos (keywordEach kws X.env)).any (·.1.isNone)) = false := by rfl) :
    DE X (.Call (.Name x p) [] kws pos) (qCallK n pe F sa) :=
  PE.imp (pe_GK h hr hgd hg hm hk hb ha hall hks hdb hpl) fun σ H Q ⟨C, N, ρ, r, ρ', I, e, fin⟩ => by
    unfold qCallK at e
    split at e
    · cases e
    · rename_i ds t ρ1 e1
      split at e
      · rename_i hl
        split at e
        · cases e
        · rename_i r0 gs' e2
          split at e
          · cases e
          · rename_i r1 hm
            cases e
            refine ⟨C, N, ρ, ds, t, _, I, e1, fun vs N1 H1 I1 k1 s1 dpa => ⟨by rw [dpa.len, hl.1, hn], none, FAo C N1 H1 t, nohp, [], _, [], _, r0, gs', rfl, hl.2, ⟨rfl, rfl, rfl⟩, I1.faoH t, same_no, I1.faoZ t, perm_dp dpa pe, e2, fun v H' N2 P => ?_⟩⟩
            obtain ⟨J, s2, ro, nw⟩ := I1.calledQ P hm (fun a z => nomatch z) rfl fun i s q => .inl ⟨q, .inr (.inl rfl)⟩
            exact (fin.after k1 s1) v _ H' J (fun a o q _ => P.keep a o q (fun z => nomatch z)) s2 ro nw
      · cases e
end
end Ev
/-! Ev: statements. -/
namespace Ev
open PySem PySem.Spec L2

def Out (K : PySem.W.Frag) (C : Ctx) (N : Hp) (D : Ends) (ρ' : En) : Fl → Prop
  | .next => ∀ C' N' σ' H', CLe C C' → EI K C' N' H' σ' ρ' → Same N N' → D.nx σ' H'
  | .brk => ∀ C' N' σ' H', CLe C C' → EI K C' N' H' σ' ρ' → Same N N' → D.bk σ' H'
  | .cont => ∀ C' N' σ' H', CLe C C' → EI K C' N' H' σ' ρ' → Same N N' → D.ct σ' H'
  | .ret r => ∀ C' N' σ' H' v, CLe C C' → EI K C' N' H' σ' ρ' → Same N N' → RO K C' N' H' σ' ρ' r v → D.rt v H'
def tS (K : PySem.W.Frag) (lk : Bool) (s : SS) : TS := fun D σ H => ∃ C N ρ fl ρ', C.lk = lk ∧ EI K C N H σ ρ ∧ s ρ = some (fl, ρ') ∧ Out K C N D ρ' fl
theorem Out.after {K : PySem.W.Frag} {C C1 : Ctx} {N N1 : Hp} {D : Ends} {ρ' : En} {fl : Fl} (c : CLe C C1) (s : Same N N1) (h : Out K C N D ρ' fl) : Out K C1 N1 D ρ' fl := by
  cases fl with
  | next => exact fun C' N' σ' H' c' I s' => h C' N' σ' H' (c.trans c') I (s.trans s')
  | brk => exact fun C' N' σ' H' c' I s' => h C' N' σ' H' (c.trans c') I (s.trans s')
  | cont => exact fun C' N' σ' H' c' I s' => h C' N' σ' H' (c.trans c') I (s.trans s')
  | ret r => exact fun C' N' σ' H' v c' I s' ro => h C' N' σ' H' v (c.trans c') I (s.trans s') ro
abbrev DS (X : Cx) (lk : Bool) (e : Stmt) (s : SS) : Prop := PS X e (tS X.K lk s)
abbrev DSs (X : Cx) (lk : Bool) (e : List Stmt) (s : SS) : Prop := PSs X e (tS X.K lk s)
theorem PS.imp {X : Cx} {e : Stmt} {t t' : TS} (h : PS X e t) (i : ∀ D σ H, t' D σ H → t D σ H) : PS X e t' :=
  ⟨fun pins s σ H D I hw => h.run pins s σ H D I (i D σ H hw)⟩
theorem PSs.imp {X : Cx} {e : List Stmt} {t t' : TS} (h : PSs X e t) (i : ∀ D σ H, t' D σ H → t D σ H) : PSs X e t' :=
  ⟨fun pins s σ H D I hw => h.run pins s σ H D I (i D σ H hw)⟩

def sSkip : SS := fun ρ => some (.next, ρ)
def sBrk : SS := fun ρ => some (.brk, ρ)
def sCont : SS := fun ρ => some (.cont, ρ)
def sSeq (s u : SS) : SS := fun ρ => match s ρ with
  | none => none
  | some (.next, ρ1) => u ρ1
  | some (fl, ρ1) => some (fl, ρ1)
def sRet (s : SE) : SS := fun ρ => match s ρ with
  | none => none
  | some (r, ρ1) => if okm r.m then some (.ret r, ρ1) else none
def sRetN : SS := fun ρ => some (.ret ⟨.none, false, .sh⟩, ρ)
def sDrop (s : SE) : SS := fun ρ => match s ρ with
  | none => none
  | some (_, ρ1) => some (.next, ρ1)
def sIfS (c : ST) (a b : SS) : SS := fun ρ => match c ρ with
  | none => none
  | some (true, ρ1) => a ρ1
  | some (false, ρ1) => b ρ1
def sNever : SS := fun _ => none
/-- a slot takes a result -/
def putR (i : Nat) (r : Res) (ρ : En) : Option En := match r.m, r.d with
  | .sh, d => stS i (.val (r.t && !sc d) d) ρ
  | .fr, .list ds => stS i (.own (r.t && !ds.all sc) ds) ρ
  | _, _ => none
def sSet (i : Nat) (s : SE) : SS := fun ρ => match s ρ with
  | none => none
  | some (r, ρ1) => match putR i r ρ1 with
    | none => none
    | some ρ2 => some (.next, ρ2)
def setOkG : Slot → Bool
  | .un | .val _ _ | .own _ _ | .gen _ => true
  | _ => false
def sSetB (i : Nat) (s : SE) : SS := fun ρ => match s ρ with
  | some (⟨.list gs, _, .fr⟩, ρ1) => if gs.all sc && (ρ1.set i .un).all nb then match ρ1[i]? with
    | some o => if setOkG o then some (.next, ρ1.set i (.gen gs)) else none
    | none => none else none
  | _ => none
def sAsgG (g : SG) (s : SE) : SS := fun ρ => match s ρ with
  | none => none
  | some (r, ρ1) => if okm r.m then match g r.d r.t ρ1 with
    | none => none
    | some ρ2 => some (.next, ρ2) else none
def sPar (i j : Nat) (a b : SE) : SS := fun ρ => match a ρ with
  | none => none
  | some (x, ρ1) => match b ρ1 with
    | none => none
    | some (y, ρ2) => match putR i x ρ2 with
      | none => none
      | some ρ3 => match putR j y ρ3 with
        | none => none
        | some ρ4 => some (.next, ρ4)
def forL (g : SG) (t : Bool) (body : SS) : List PyData → SS
  | [], ρ => some (.next, ρ)
  | d :: r, ρ => match g d t ρ with
    | none => none
    | some ρa => match body ρa with
      | none => none
      | some (.next, ρb) => forL g t body r ρb
      | some (.cont, ρb) => forL g t body r ρb
      | some (.brk, ρb) => some (.next, ρb)
      | some (.ret x, ρb) => some (.ret x, ρb)
def sFor (it : SA) (g : SG) (body : SS) : SS := fun ρ => match it ρ with
  | none => none
  | some (ds, t, ρ1) => forL g t body ds ρ1
def sWhile (c : ST) (body : SS) : Nat → SS
  | 0, _ => none
  | n + 1, ρ => match c ρ with
    | none => none
    | some (false, ρ1) => some (.next, ρ1)
    | some (true, ρ1) => match body ρ1 with
      | none => none
      | some (.next, ρ2) => sWhile c body n ρ2
      | some (.cont, ρ2) => sWhile c body n ρ2
      | some (.brk, ρ2) => some (.next, ρ2)
      | some (.ret x, ρ2) => some (.ret x, ρ2)

section
variable {K : PySem.W.Frag} {C : Ctx} {N N' H H' : Hp} {σ : St} {ρ ρ' : En} {v : V}
theorem EI.putR (I : EI K C N H σ ρ) {r : Res} (h : RO K C N H σ ρ r v) {i : Nat} (e : putR i r ρ = some ρ') : EI K C N H (σ.set i (some v)) ρ' := by
  obtain ⟨d, t, m⟩ := r
  cases m with
  | sh => exact I.put e ⟨v, rfl, I.refine h⟩ fun z => z.elim
  | fr =>
    obtain ⟨a, vs, ds, e1, rfl, e2, e3, e4, e5, e6, e7⟩ := h
    simp only at e1
    subst e1
    refine I.put e ⟨a, vs, rfl, e2, e3, e4, e5, ?_⟩ fun _ j hj => e6 j hj
    have e7 : DpAll [] (Ft C N t) vs ds := e7
    cases hs : ds.all sc with
    | true => exact dpAll_sc hs e7
    | false => rw [Bool.not_false, Bool.and_true]; exact e7
  | pk => cases e
  | kk => cases e
end
section
variable {X : Cx} {lk : Bool} {st : Stmt} {rest body orelse : List Stmt} {s u : SS} {se sa sb : SE} {e a b tg iter : Expr} {pos : Pos} {i j : Nat} {si : SA} {g : SG} {c : ST} {ix : List Nat}
theorem dss_nil : DSs X lk [] sSkip := PSs.imp pss_nil fun D σ H ⟨C, N, ρ, fl, ρ', hk, I, e, o⟩ => by
  cases e
  exact o C N σ H .refl I (Same.refl _)
theorem dss_cons (h1 : DS X lk st s) (h2 : DSs X lk rest u) : DSs X lk (st :: rest) (sSeq s u) := PSs.imp (pss_cons h1 h2) fun D σ H ⟨C, N, ρ, fl, ρ', hk, I, e, o⟩ => by
  unfold sSeq at e
  cases e1 : s ρ with
  | none => rw [e1] at e; cases e
  | some p =>
    obtain ⟨f1, ρ1⟩ := p
    rw [e1] at e
    refine ⟨C, N, ρ, f1, ρ1, hk, I, e1, ?_⟩
    cases f1 with
    | next => exact fun C' N' σ' H' c' I' s' => ⟨C', N', ρ1, fl, ρ', c'.lk.trans hk, I', e, o.after c' s'⟩
    | brk => cases e; exact o
    | cont => cases e; exact o
    | ret r => cases e; exact o
theorem ds_pass : DS X lk (.Pass pos) sSkip := PS.imp ps_pass fun D σ H ⟨C, N, ρ, fl, ρ', hk, I, e, o⟩ => by
  cases e
  exact o C N σ H .refl I (Same.refl _)
theorem ds_break : DS X lk (.Break pos) sBrk := PS.imp ps_break fun D σ H ⟨C, N, ρ, fl, ρ', hk, I, e, o⟩ => by
  cases e
  exact o C N σ H .refl I (Same.refl _)
theorem ds_continue : DS X lk (.Continue pos) sCont := PS.imp ps_continue fun D σ H ⟨C, N, ρ, fl, ρ', hk, I, e, o⟩ => by
  cases e
  exact o C N σ H .refl I (Same.refl _)
theorem ds_never : DS X lk st sNever := PS.imp ps_never fun D σ H ⟨C, N, ρ, fl, ρ', hk, I, e, o⟩ => by cases e
theorem ds_ret (h : DE X e se) : DS X lk (.Return (some e) pos) (sRet se) := PS.imp (ps_ret h) fun D σ H ⟨C, N, ρ, fl, ρ', hk, I, e, o⟩ => by
  unfold sRet at e
  split at e
  · cases e
  · rename_i r ρ1 e1
    split at e
    · rename_i hm
      cases e
      exact ⟨C, N, ρ, r, _, I, e1, fun v N1 H1 I1 k1 s1 ro _ => o C N1 σ H1 v .refl I1 s1 ro⟩
    · cases e
theorem ds_retN : DS X lk (.Return none pos) sRetN := PS.imp ps_retN fun D σ H ⟨C, N, ρ, fl, ρ', hk, I, e, o⟩ => by
  cases e
  exact o C N σ H .non .refl I (Same.refl _) .non
theorem ds_drop (h : DE X e se) (hs : swapsWith e none pos.line X.env = pure false := by rfl) : DS X lk (.Expr e pos) (sDrop se) := PS.imp (ps_expr h hs) fun D σ H ⟨C, N, ρ, fl, ρ', hk, I, e, o⟩ => by
  unfold sDrop at e
  split at e
  · cases e
  · rename_i r ρ1 e1
    cases e
    exact ⟨C, N, ρ, r, _, I, e1, fun v N1 H1 I1 k1 s1 ro _ => o C N1 σ H1 .refl I1 s1⟩
theorem ds_if (hc : DT X e c) (ha : DSs X lk body s) (hb : DSs X lk orelse u) : DS X lk (.If e body orelse pos) (sIfS c s u) := PS.imp (ps_if hc ha hb) fun D σ H ⟨C, N, ρ, fl, ρ', hk, I, e, o⟩ => by
  unfold sIfS at e
  split at e
  · cases e
  · rename_i ρ1 e1
    exact ⟨C, N, ρ, true, ρ1, I, e1, fun N1 H1 I1 k1 s1 => iteT ⟨C, N1, ρ1, fl, ρ', hk, I1, e, o.after .refl s1⟩⟩
  · rename_i ρ1 e1
    exact ⟨C, N, ρ, false, ρ1, I, e1, fun N1 H1 I1 k1 s1 => iteF ⟨C, N1, ρ1, fl, ρ', hk, I1, e, o.after .refl s1⟩⟩
theorem set_read {K : PySem.W.Frag} {D : Ends} {σ : St} {H : Hp} (h : tS K lk (sSet i se) D σ H) : tAsg (tF K se) (gName i) D σ H := by
  obtain ⟨C, N, ρ, fl, ρ', hk, I, e, o⟩ := h
  unfold sSet at e
  split at e
  · cases e
  · rename_i r ρ1 e1
    split at e
    · cases e
    · rename_i ρ2 e2
      cases e
      exact ⟨C, N, ρ, r, ρ1, I, e1, fun v N1 H1 I1 k1 s1 ro _ => o C N1 _ H1 .refl (I1.putR ro e2) s1⟩
theorem ds_set (h : PS X st (tAsg (tF X.K se) (gName i))) : DS X lk st (sSet i se) := PS.imp h fun _ _ _ h => set_read h
theorem ds_setLc {wi : TI} {gg : TG} {tt : TT} {te : TE} {vs : List Nat} (h : PS X st (tAsg (tLc wi gg tt te vs) (gName i))) (hr : ∀ σ H Q, tF X.K se σ H Q → tLc wi gg tt te vs σ H Q) : DS X lk st (sSet i se) :=
  PS.imp h fun _ _ _ h => hr _ _ _ (set_read h)
theorem ds_asg (h : PS X st (tAsg (tF X.K se) (tG X.K g ix))) : DS X lk st (sAsgG g se) := PS.imp h fun D σ H ⟨C, N, ρ, fl, ρ', hk, I, e, o⟩ => by
  unfold sAsgG at e
  split at e
  · cases e
  · rename_i r ρ1 e1
    split at e
    · rename_i hm
      split at e
      · cases e
      · rename_i ρ2 e2
        cases e
        refine ⟨C, N, ρ, r, ρ1, I, e1, fun v N1 H1 I1 k1 s1 ro _ => ?_⟩
        obtain ⟨N2, I2, s2, dp⟩ := I1.frz ro (by
          cases m : r.m with
          | sh => exact .inl rfl
          | fr => exact .inr rfl
          | pk => rw [m] at hm; cases hm
          | kk => rw [m] at hm; cases hm)
        exact ⟨C, N2, ρ1, r.d, r.t, _, I2, dp, e2, fun σ3 N3 H3 I3 _ k3 s3 => o C N3 σ3 H3 .refl I3 (s1.trans (s2.trans s3))⟩
    · cases e
theorem ds_par (h : PS X st (tPar i j (tCons (tF X.K sa) (tCons (tF X.K sb) tNil)))) : DS X lk st (sPar i j sa sb) := PS.imp h fun D σ H ⟨C, N, ρ, fl, ρ', hk, I, e, o⟩ => by
  unfold sPar at e
  split at e
  · cases e
  · rename_i x ρ1 e1
    split at e
    · cases e
    · rename_i y ρ2 e2
      split at e
      · cases e
      · rename_i ρ3 e3
        split at e
        · cases e
        · rename_i ρ4 e4
          cases e
          refine ⟨C, N, ρ, x, ρ1, I, e1, fun v N1 H1 I1 k1 s1 ro _ => ?_⟩
          obtain ⟨xd, xt, xm⟩ := x
          have fin : ∀ (w : V) N2 H2, EI X.K C N2 H2 σ ρ2 → Same N1 N2 → RO X.K C N2 H2 σ ρ2 ⟨xd, xt, xm⟩ v → RO X.K C N2 H2 σ ρ2 y w → (xm = .fr → v ≠ w) → ∃ v' w', [v, w] = [v', w'] ∧ D.nx ((σ.set i (some v')).set j (some w')) H2 := fun w N2 H2 I2 s2 r1 r2 hne => by
            refine ⟨v, w, rfl, ?_⟩
            have I3 := I2.putR r1 e3
            refine o C N2 _ H2 .refl (I3.putR (ρ' := _) ?_ e4) (s1.trans s2)
            obtain ⟨yd, yt, ym⟩ := y
            cases ym with
            | sh => exact r2
            | fr =>
              obtain ⟨a, vs, ds, q1, rfl, q2, q3, q4, q5, q6, q7⟩ := r2
              refine ⟨a, vs, ds, q1, rfl, q2, q3, q4, q5, fun m hm z => ?_, q7⟩
              -- the first slot's list is another one
              unfold putR stS at e3
              cases xm with
              | sh =>
                simp only at e3
                split at e3
                · split at e3
                  · rename_i so sq so2
                    cases e3
                    have hi : i < ρ2.length := (List.getElem?_eq_some_iff.mp sq).1
                    by_cases hmi : m = i
                    · subst hmi
                      rw [List.getElem?_set_self hi] at hm
                      exact hm
                    · rw [List.getElem?_set_ne (Ne.symm hmi)] at hm
                      rw [List.getElem?_set_ne (Ne.symm hmi)] at z
                      exact q6 m hm z
                  · cases e3
                · cases e3
              | fr =>
                cases xd with
                | list xl =>
                  simp only at e3
                  split at e3
                  · split at e3
                    · rename_i so sq so2
                      cases e3
                      have hi : i < ρ2.length := (List.getElem?_eq_some_iff.mp sq).1
                      by_cases hmi : m = i
                      · subst hmi
                        rw [List.getElem?_set_self (by rw [← I2.len]; exact hi)] at z
                        exact hne rfl (Option.some.inj (Option.some.inj z))
                      · rw [List.getElem?_set_ne (Ne.symm hmi)] at hm
                        rw [List.getElem?_set_ne (Ne.symm hmi)] at z
                        exact q6 m hm z
                    · cases e3
                  · cases e3
                | none => cases e3
                | bool _ => cases e3
                | int _ => cases e3
                | str _ => cases e3
                | tuple _ => cases e3
                | dict _ => cases e3
              | pk => cases e3
              | kk => cases e3
            | pk => unfold putR at e4; cases e4
            | kk => unfold putR at e4; cases e4
          cases xm with
          | sh =>
            refine ⟨C, N1, ρ1, y, ρ2, I1, e2, fun w N2 H2 I2 k2 s2 ro2 nw2 => ?_⟩
            exact fin w N2 H2 I2 s2 (dp_mono (ft_grow s2 I2.dis xt) _ _ ro) ro2 fun z => nomatch z
          | fr =>
            obtain ⟨a, vs, ds, q1, rfl, q2, q3, q4, q5, q6, q7⟩ := ro
            refine ⟨C.guard a (.lst vs), N1, ρ1, y, ρ2, I1.guard q2 q4 q3 q5 q6, e2, fun w N2 H2 I2' k2 s2 ro2 nw2 => ?_⟩
            obtain ⟨I2, hD, nD, gD, oD⟩ := I2'.unguard q4 I1.fa I1.rs
            have r2 : RO X.K C N2 H2 σ ρ2 y w := by
              obtain ⟨yd, yt, ym⟩ := y
              cases ym with
              | sh => exact ro2
              | fr =>
                obtain ⟨b, ws, es, p1, p2, p3, p4, p5, p6, p7, p8⟩ := ro2
                exact ⟨b, ws, es, p1, p2, p3, p4, (same_upd (o := .lst vs) q4).free p5, p6, p7, p8⟩
              | pk => exact ro2
              | kk => exact ro2
            refine fin w N2 H2 I2 s2 ⟨a, vs, ds, q1, rfl, hD, nD, q4, gD, oD, dpAll_mono (ft_grow s2 I2.dis xt) _ _ q7⟩ r2 fun _ z => ?_
            subst z
            obtain ⟨yd, yt, ym⟩ := y
            cases ym with
            | fr =>
              have := nw2 rfl a rfl
              rw [q2] at this
              cases this
            | sh =>
              -- a shared result does not reach the new list
              have dp : Dp [] (Ft C N2 yt) (.ref a) yd := r2
              have no : Ft C N2 yt a = none := ft_none nD (I2.fa.free q4) yt
              cases dp with
              | lst hs ha =>
                rcases sq0 hs with h | ⟨o', h⟩
                · rw [no] at h; cases h
                · rw [no] at h; cases h
              | tup hs ha =>
                rcases sqT0 hs with h | ⟨o', h⟩
                · rw [no] at h; cases h
                · rw [no] at h; cases h
            | pk => unfold putR at e4; cases e4
            | kk => unfold putR at e4; cases e4
          | pk => unfold putR at e3; cases e3
          | kk => unfold putR at e3; cases e3
end
end Ev
/-! Ev: loops, stores into lists, a def from its body. -/
namespace Ev
open PySem PySem.Spec L2

/-! ### stores -/
def adr : Option Slot → Bool
  | some (.own _ _) | some (.bor _) | some (.gen _) => true
  | _ => false
def sSetIx (i : Nat) (s k : SE) : SS := fun ρ => match s ρ with
  | none => none
  | some (r, ρ1) => if okm r.m && adr ρ1[i]? then match k ρ1 with
    | some (⟨.int z, _, _⟩, ρ2) => match ρ2[i]? with
      | some (.own t xs) => match ixN xs.length z with
        | none => none
        | some j => some (.next, ρ2.set i (.own (t || (r.t && !sc r.d)) (xs.set j r.d)))
      | _ => match borOf ρ2[i]? with
        | none => none
        | some xs => match ixN xs.length z with
          | none => none
          | some j => if sc r.d then match lend i (xs.set j r.d) ρ2 with
            | none => none
            | some ρ3 => some (.next, ρ3) else none
    | _ => none else none
def sApp (i : Nat) (s : SE) : SS := fun ρ => match ρ[i]? with
  | some (.own _ _) => match s ρ with
    | none => none
    | some (r, ρ1) => if okm r.m then match ρ1[i]? with
      | some (.own t xs) => if xs.length < sizeLine then some (.next, ρ1.set i (.own (t || (r.t && !sc r.d)) (xs ++ [r.d]))) else none
      | _ => none else none
  | _ => none
def sPop (i : Nat) : SS := fun ρ => match ρ[i]? with
  | some (.own t xs) => if xs.isEmpty then none else some (.next, ρ.set i (.own t xs.dropLast))
  | _ => none
section
variable {K : PySem.W.Frag} {C : Ctx} {N N' H H' : Hp} {σ : St} {ρ ρ' : En} {v : V}
/-- an owned list is stored into -/
theorem EI.write (I : EI K C N H σ ρ) {i : Nat} {t t' : Bool} {xs xs' : List PyData} {a : Addr} {vs' : List V} (q : ρ[i]? = some (.own t xs)) (ha : σ[i]? = some (some (.ref a))) (hd : DpAll [] (Ft C N t') vs' xs') : EI K C N (upd H a (.lst vs')) σ (ρ.set i (.own t' xs')) := by
  obtain ⟨b, vs, e1, e2, e3, e4, e5, e6⟩ := I.sl i _ q
  rw [ha] at e1
  cases e1
  have hi : i < ρ.length := (List.getElem?_eq_some_iff.mp q).1
  have other : ∀ (j : Nat) sl, j ≠ i → ρ[j]? = some sl → isOwn (some sl) → σ[j]? ≠ some (some (.ref a)) := fun j sl hj e ho z => by
    refine I.ds j i hj (by rw [e]; exact ho) (by rw [q]; trivial) (by rw [z, ha])
  refine ⟨fun b o e => ?_, I.fa, I.rs, fun b o e => ?_, I.nn, I.nf, I.nz, fun g e => ?_, by rw [List.length_set]; exact I.len, fun j sl e => ?_, fun j k hjk hj hk => ?_⟩
  · rw [upd_ne (fun z => by subst z; rw [e4] at e; cases e)]; exact I.h0 b o e
  · rw [upd_ne (fun z => by subst z; rw [e3] at e; cases e)]; exact I.n b o e
  · obtain ⟨h1, h2, ys, h3⟩ := I.gg g e
    refine ⟨h1, h2, ys, ?_⟩
    rw [upd_ne (fun z => e5 (by rw [← z]; exact e))]
    exact h3
  · by_cases hj : j = i
    · subst hj
      rw [List.getElem?_set_self hi] at e
      cases e
      exact ⟨a, vs', ha, upd_same, e3, e4, e5, hd⟩
    · rw [List.getElem?_set_ne (Ne.symm hj)] at e
      have z := I.sl j sl e
      have bor : ∀ ys, (∃ b ws, σ[j]? = some (some (.ref b)) ∧ C.g = some b ∧ H b = some (.lst ws) ∧ DpAll [] nohp ws ys) → ∃ b ws, σ[j]? = some (some (.ref b)) ∧ C.g = some b ∧ upd H a (.lst vs') b = some (.lst ws) ∧ DpAll [] nohp ws ys := fun ys ⟨b, ws, z1, z2, z3, z4⟩ => by
        refine ⟨b, ws, z1, z2, ?_, z4⟩
        rw [upd_ne (fun y => e5 (by rw [← y]; exact z2))]
        exact z3
      cases sl with
      | un => trivial
      | val t d => exact z
      | own t ys =>
        obtain ⟨b, ws, z1, z2, z3⟩ := z
        refine ⟨b, ws, z1, ?_, z3⟩
        rw [upd_ne (fun y => other j _ hj e trivial (by rw [z1, y]))]
        exact z2
      | bor ys => exact bor ys z
      | gen ys => exact bor ys z
      | ro ys => exact z
  · have step : ∀ m : Nat, isOwn (ρ.set i (.own t' xs'))[m]? → isOwn ρ[m]? := fun m hm => by
      by_cases h : m = i
      · subst h
        rw [q]; trivial
      · rw [List.getElem?_set_ne (Ne.symm h)] at hm
        exact hm
    exact I.ds j k hjk (step j hj) (step k hk)
/-- the lent list is stored into -/
theorem EI.lendW (I : EI K C N H σ ρ) {i : Nat} {xs xs' : List PyData} {a : Addr} {vs' : List V} (q : borOf ρ[i]? = some xs) (e : lend i xs' ρ = some ρ') (ha : σ[i]? = some (some (.ref a))) (hd : DpAll [] nohp vs' xs') : EI K C N (upd H a (.lst vs')) σ ρ' := by
  obtain ⟨b, vs, e1, e2, e3, e4⟩ := bor_at I q
  rw [ha] at e1
  cases e1
  obtain ⟨g1, g2, _⟩ := I.gg a e2
  unfold lend at e
  split at e
  · rename_i s0 q0
    split at e
    · rename_i hall
      cases e
      have hall := List.all_eq_true.mp hall
      have hi : i < ρ.length := (List.getElem?_eq_some_iff.mp q0).1
      refine ⟨fun b o e => ?_, I.fa, I.rs, fun b o e => ?_, I.nn, I.nf, I.nz, fun g e => ?_, by rw [List.length_set]; exact I.len, fun j sl e => ?_, fun j k hjk hj hk => ?_⟩
      · rw [upd_ne (fun z => by subst z; rw [g1] at e; cases e)]; exact I.h0 b o e
      · rw [upd_ne (fun z => by subst z; rw [g2] at e; cases e)]; exact I.n b o e
      · rw [e2] at e
        cases e
        exact ⟨g1, g2, _, upd_same⟩
      · by_cases hj : j = i
        · subst hj
          rw [List.getElem?_set_self hi] at e
          cases e
          rw [q0] at q
          have f : ∃ b ws, σ[j]? = some (some (.ref b)) ∧ C.g = some b ∧ upd H a (.lst vs') b = some (.lst ws) ∧ DpAll [] nohp ws xs' := ⟨a, vs', ha, e2, upd_same, hd⟩
          cases s0 with
          | bor _ => exact f
          | gen _ => exact f
          | un => cases q
          | val _ _ => cases q
          | own _ _ => cases q
          | ro _ => cases q
        · have e' := e
          rw [List.getElem?_set_ne (Ne.symm hj)] at e
          have z := I.sl j sl e
          have hnb : nb sl = true := hall sl (List.mem_of_getElem? (i := j) (by rw [List.getElem?_set_ne (Ne.symm hj)]; exact e))
          cases sl with
          | un => trivial
          | val t d => exact z
          | own t ys =>
            obtain ⟨b, ws, z1, z2, z3, z4, z5, z6⟩ := z
            refine ⟨b, ws, z1, ?_, z3, z4, z5, z6⟩
            rw [upd_ne (fun y => z5 (by rw [y]; exact e2))]
            exact z2
          | bor ys => cases hnb
          | gen ys => cases hnb
          | ro ys => exact z
      · have step : ∀ m : Nat, isOwn (ρ.set i (reB xs' s0))[m]? → isOwn ρ[m]? := fun m hm => by
          by_cases h : m = i
          · subst h
            rw [List.getElem?_set_self hi] at hm
            rw [q0] at q
            cases s0 with
            | bor _ => exact hm.elim
            | gen _ => exact hm.elim
            | un => cases q
            | val _ _ => cases q
            | own _ _ => cases q
            | ro _ => cases q
          · rw [List.getElem?_set_ne (Ne.symm h)] at hm
            exact hm
        exact I.ds j k hjk (step j hj) (step k hk)
    · cases e
  · cases e
end
section
variable {X : Cx} {lk : Bool} {st : Stmt} {rest body orelse : List Stmt} {s u : SS} {se sk : SE} {e k tg iter : Expr} {es : List Expr} {pos pos2 apos cpos : Pos} {i j : Nat} {si : SA} {g : SG} {c : ST} {ix : List Nat}
theorem ds_setIx (h : PS X st (tAsg (tF X.K se) (gSub (tVar i) (tF X.K sk) rSetL))) : DS X lk st (sSetIx i se sk) := PS.imp h fun D σ H ⟨C, N, ρ, fl, ρ', hk, I, e, o⟩ => by
  unfold sSetIx at e
  split at e
  · cases e
  · rename_i r ρ1 e1
    split at e
    · rename_i hm
      rw [Bool.and_eq_true] at hm
      obtain ⟨hm, hadr⟩ := hm
      split at e
      · rename_i z tz mz ρ2 e2
        refine ⟨C, N, ρ, r, ρ1, I, e1, fun v N1 H1 I1 k1 s1 ro _ => ?_⟩
        obtain ⟨N2, I2, s2, dp⟩ := I1.frz ro (by
          cases m : r.m with
          | sh => exact .inl rfl
          | fr => exact .inr rfl
          | pk => rw [m] at hm; cases hm
          | kk => rw [m] at hm; cases hm)
        obtain ⟨a, ha⟩ : ∃ a, σ[i]? = some (some (.ref a)) := by
          cases q : ρ1[i]? with
          | none => rw [q] at hadr; cases hadr
          | some sl =>
            rw [q] at hadr
            have w := I2.sl i sl q
            cases sl with
            | own t xs => obtain ⟨a, vs, w1, _⟩ := w; exact ⟨a, w1⟩
            | bor xs => obtain ⟨a, vs, w1, _⟩ := w; exact ⟨a, w1⟩
            | gen xs => obtain ⟨a, vs, w1, _⟩ := w; exact ⟨a, w1⟩
            | un => cases hadr
            | val _ _ => cases hadr
            | ro _ => cases hadr
        refine ⟨_, ha, C, N2, ρ1, _, _, I2, e2, fun w N3 H3 I3 k3 s3 ro3 _ => ?_⟩
        have ez := ra_int (I3.ra ro3) rfl
        subst ez
        have dp3 := dp_mono (ft_grow s3 I3.dis r.t) _ _ dp
        split at e
        · rename_i t xs q
          split at e
          · cases e
          · rename_i j hj
            cases e
            obtain ⟨b, vs, w1, w2, w3, w4, w5, w6⟩ := I3.sl i _ q
            rw [ha] at w1
            cases w1
            refine ⟨a, vs, z, j, rfl, rfl, w2, by rw [w6.len]; exact hj, o C N3 σ _ .refl (I3.write q ha ?_) (s1.trans (s2.trans s3))⟩
            refine DpAll.set ?_ j (dpAll_mono (ft_or I3.dis (fun z => by rw [z]; rfl)) _ _ w6)
            cases hsc : sc r.d with
            | true => exact dp_sc hsc dp3
            | false => exact dp_mono (ft_or I3.dis (fun z => by rw [z]; exact Bool.or_true _)) _ _ dp3
        · split at e
          · cases e
          · rename_i xs q
            split at e
            · cases e
            · rename_i j hj
              split at e
              · rename_i hsc
                split at e
                · cases e
                · rename_i ρ3 e3
                  cases e
                  obtain ⟨b, vs, w1, w2, w3, w4⟩ := bor_at I3 q
                  rw [ha] at w1
                  cases w1
                  exact ⟨a, vs, z, j, rfl, rfl, w3, by rw [w4.len]; exact hj, o C N3 σ _ .refl (I3.lendW q e3 ha (DpAll.set (dp_sc hsc dp3) j w4)) (s1.trans (s2.trans s3))⟩
              · cases e
      · cases e
    · cases e
theorem ds_app (h : PS X st (tDrop (tBM X.K "list" rAppend (tVar i) (tCons (tF X.K se) tNil)))) : DS X lk st (sApp i se) := PS.imp h fun D σ H ⟨C, N, ρ, fl, ρ', hk, I, e, o⟩ => by
  unfold sApp at e
  split at e
  · rename_i t0 xs0 q0
    obtain ⟨a, vs0, ha, w2, _⟩ := I.sl i _ q0
    split at e
    · cases e
    · rename_i r ρ1 e1
      split at e
      · rename_i hm
        split at e
        · rename_i t xs q
          split at e
          · rename_i hz
            cases e
            refine ⟨_, ha, .inl ⟨rfl, vs0, .inl (.inl w2)⟩, C, N, ρ, r, ρ1, I, e1, fun v N1 H1 I1 k1 s1 ro _ => ?_⟩
            obtain ⟨N2, I2, s2, dp⟩ := I1.frz ro (by
              cases m : r.m with
              | sh => exact .inl rfl
              | fr => exact .inr rfl
              | pk => rw [m] at hm; cases hm
              | kk => rw [m] at hm; cases hm)
            obtain ⟨b, vs, w1, w2, w3, w4, w5, w6⟩ := I2.sl i _ q
            rw [ha] at w1
            cases w1
            refine ⟨a, vs, v, rfl, rfl, w2, by rw [w6.len]; exact hz, o C N2 σ _ .refl (I2.write q ha ?_) (s1.trans s2)⟩
            refine (dpAll_mono (ft_or I2.dis (fun z => by rw [z]; rfl)) _ _ w6).append (.cons ?_ .nil)
            cases hsc : sc r.d with
            | true => exact dp_sc hsc dp
            | false => exact dp_mono (ft_or I2.dis (fun z => by rw [z]; exact Bool.or_true _)) _ _ dp
          · cases e
        · cases e
      · cases e
  · cases e
theorem ds_pop (h : PS X st (tDrop (tBM0 X.K "list" rPop (tVar i)))) : DS X lk st (sPop i) := PS.imp h fun D σ H ⟨C, N, ρ, fl, ρ', hk, I, e, o⟩ => by
  unfold sPop at e
  split at e
  · rename_i t xs q
    split at e
    · cases e
    · rename_i hne
      cases e
      obtain ⟨a, vs, ha, w2, w3, w4, w5, w6⟩ := I.sl i _ q
      have hl : 0 < vs.length := by
        rw [w6.len]
        cases xs with
        | nil => exact absurd rfl hne
        | cons _ _ => exact Nat.succ_pos _
      refine ⟨_, ha, .inl ⟨rfl, vs, .inl (.inl w2)⟩, a, vs, vs[vs.length - 1], rfl, rfl, w2, List.getElem?_eq_getElem (by omega), o C N σ _ .refl (I.write q ha w6.dropLast) (Same.refl _)⟩
  · cases e
/-- a list of one's own, to be lent -/
theorem ds_setB (h : PS X st (tAsg (tF X.K se) (gName i))) (hl : lk = false) : DS X lk st (sSetB i se) := PS.imp h fun D σ H ⟨C, N, ρ, fl, ρ', hk, I, e, o⟩ => by
  unfold sSetB at e
  split at e
  · rename_i gs tg ρ1 e1
    split at e
    · rename_i hc
      rw [Bool.and_eq_true] at hc
      obtain ⟨hsc, hall⟩ := hc
      have hall := List.all_eq_true.mp hall
      split at e
      · rename_i so q
        split at e
        · cases e
          refine ⟨C, N, ρ, _, ρ1, I, e1, fun v N1 H1 I1 k1 s1 ro _ => ?_⟩
          obtain ⟨a, vs, ds, q1, rfl, q2, q3, q4, q5, q6, q7⟩ := ro
          cases q1
          have hi : i < ρ1.length := (List.getElem?_eq_some_iff.mp q).1
          have hiσ : i < σ.length := by rw [← I1.len]; exact hi
          refine o ⟨some a, C.H0, C.FA, C.R, C.lk⟩ N1 _ H1 ⟨rfl, rfl, rfl, rfl, fun z => by rw [hk, hl] at z; cases z⟩ ⟨I1.h0, I1.fa, I1.rs, I1.n, I1.nn, I1.nf, I1.nz, fun g z => by cases z; exact ⟨q4, q3, vs, q2⟩, by rw [List.length_set, List.length_set]; exact I1.len, fun j sl e => ?_, fun j k hjk hj hk => ?_⟩ s1
          · by_cases hj : j = i
            · subst hj
              rw [List.getElem?_set_self hi] at e
              cases e
              rw [List.getElem?_set_self hiσ]
              exact ⟨a, vs, rfl, rfl, q2, dpAll_sc hsc q7⟩
            · have hnb : nb sl = true := hall sl (List.mem_of_getElem? (i := j) (by rw [List.getElem?_set_ne (Ne.symm hj)]; rw [List.getElem?_set_ne (Ne.symm hj)] at e; exact e))
              rw [List.getElem?_set_ne (Ne.symm hj)] at e
              rw [List.getElem?_set_ne (Ne.symm hj)]
              have z := I1.sl j sl e
              cases sl with
              | un => trivial
              | val t d => exact z
              | own t ys =>
                obtain ⟨b, ws, z1, z2, z3, z4, z5, z6⟩ := z
                refine ⟨b, ws, z1, z2, z3, z4, fun y => ?_, z6⟩
                cases y
                exact q6 j (by rw [e]; trivial) z1
              | bor _ => cases hnb
              | gen _ => cases hnb
              | ro xs => exact z
          · have step : ∀ m : Nat, isOwn (ρ1.set i (.gen gs))[m]? → m ≠ i ∧ isOwn ρ1[m]? := fun m hm => by
              by_cases h : m = i
              · subst h
                rw [List.getElem?_set_self hi] at hm
                exact hm.elim
              · rw [List.getElem?_set_ne (Ne.symm h)] at hm
                exact ⟨h, hm⟩
            obtain ⟨n1, o1⟩ := step j hj
            obtain ⟨n2, o2⟩ := step k hk
            rw [List.getElem?_set_ne (Ne.symm n1), List.getElem?_set_ne (Ne.symm n2)]
            exact I1.ds j k hjk o1 o2
        · cases e
      · cases e
    · cases e
  · cases e

/-! ### loops -/
theorem ds_for (hp : PassesOwn (model X.prog X.w) X.A X.env X.xe) (hc : X.calm = true) (hi : DI X tg iter si) (hg : DG X tg g ix) (hb : DSs X lk body s) (hs : ∀ x, foldedSetIterable iter X.env x = pure x := by intro _; rfl) : DS X lk (.For tg iter body [] pos) (sFor si g s) :=
  PS.imp (ps_for hp hc hi hg hb hs) fun D σ H ⟨C, N, ρ, fl, ρ', hk, I, e, o⟩ => by
    unfold sFor at e
    split at e
    · cases e
    · rename_i ds t ρ1 e1
      refine ⟨C, N, ρ, ds, t, ρ1, I, e1, fun J N1 H1 I1 k1 s1 Y => ?_⟩
      refine ⟨fun i m σi Hi => m = ds.length - i ∧ i ≤ ds.length ∧ ∃ Ci Ni ρi, CLe C Ci ∧ EI X.K Ci Ni Hi σi ρi ∧ Same N1 Ni ∧ forL g t s (ds.drop i) ρi = some (fl, ρ'), ⟨ds.length, by simp, Nat.zero_le _, C, N1, ρ1, .refl, I1, Same.refl _, e⟩, ?_⟩
      rintro i m σi Hi ⟨rfl, hi, Ci, Ni, ρi, ci, Ii, si, ei⟩
      by_cases hlt : i < ds.length
      · refine .inr ?_
        obtain ⟨go, yld⟩ := Y.go i _ _ _ _ _ _ (List.getElem?_eq_getElem hlt) ci Ii si
        refine ⟨go, fun σ' H' => i + 1 ≤ ds.length ∧ ∃ Ci Ni ρi, CLe C Ci ∧ EI X.K Ci Ni H' σ' ρi ∧ Same N1 Ni ∧ forL g t s (ds.drop (i + 1)) ρi = some (fl, ρ'), fun σ' H' h' => ⟨ds.length - (i + 1), by omega, rfl, h'⟩, fun x H' y => ?_⟩
        obtain ⟨N3, I3, k3, s3, dx, _⟩ := yld x H' y
        rw [List.drop_eq_getElem_cons hlt] at ei
        unfold forL at ei
        split at ei
        · cases ei
        · rename_i ρa ea
          refine ⟨Ci, N3, ρi, _, t, ρa, I3, dx, ea, fun σ4 N4 H4 I4 _ k4 s4 => ?_⟩
          have sN := si.trans (s3.trans s4)
          split at ei
          · cases ei
          · rename_i ρb eb
            exact ⟨Ci, N4, ρa, .next, ρb, ci.lk.trans hk, I4, eb, fun C5 N5 σ5 H5 c5 I5 s5 => ⟨hlt, C5, N5, ρb, ci.trans c5, I5, sN.trans s5, ei⟩⟩
          · rename_i ρb eb
            exact ⟨Ci, N4, ρa, .cont, ρb, ci.lk.trans hk, I4, eb, fun C5 N5 σ5 H5 c5 I5 s5 => ⟨hlt, C5, N5, ρb, ci.trans c5, I5, sN.trans s5, ei⟩⟩
          · rename_i ρb eb
            cases ei
            exact ⟨Ci, N4, ρa, .brk, _, ci.lk.trans hk, I4, eb, fun C5 N5 σ5 H5 c5 I5 s5 => o C5 N5 σ5 H5 (ci.trans c5) I5 (s1.trans (sN.trans s5))⟩
          · rename_i xr ρb eb
            cases ei
            exact ⟨Ci, N4, ρa, .ret xr, _, ci.lk.trans hk, I4, eb, fun C5 N5 σ5 H5 v c5 I5 s5 ro => o C5 N5 σ5 H5 v (ci.trans c5) I5 (s1.trans (sN.trans s5)) ro⟩
      · have hi' : i = ds.length := by omega
        subst hi'
        refine .inl ⟨Y.stop _ _ _ _ _ ci Ii si, ?_⟩
        rw [List.drop_length] at ei
        unfold forL at ei
        cases ei
        exact o Ci Ni σi Hi ci Ii (s1.trans si)
theorem ds_while {n : Nat} (hp : PassesOwn (model X.prog X.w) X.A X.env X.xe) (hc : DT X e c) (hb : DSs X lk body s) : DS X lk (.While e body [] pos) (sWhile c s n) :=
  PS.imp (ps_while hp hc hb) fun D σ H ⟨C, N, ρ, fl, ρ', hk, I, e, o⟩ => by
    refine ⟨fun m σi Hi => ∃ Ci Ni ρi, CLe C Ci ∧ EI X.K Ci Ni Hi σi ρi ∧ Same N Ni ∧ sWhile c s m ρi = some (fl, ρ'), ⟨n, C, N, ρ, .refl, I, Same.refl _, e⟩, ?_⟩
    rintro m σi Hi ⟨Ci, Ni, ρi, ci, Ii, si, ei⟩
    cases m with
    | zero => cases ei
    | succ m =>
      unfold sWhile at ei
      split at ei
      · cases ei
      · rename_i ρ1 e1
        cases ei
        exact ⟨Ci, Ni, ρi, false, _, Ii, e1, fun N1 H1 I1 k1 s1 => iteF (o Ci N1 σi H1 ci I1 (si.trans s1))⟩
      · rename_i ρ1 e1
        refine ⟨Ci, Ni, ρi, true, ρ1, Ii, e1, fun N1 H1 I1 k1 s1 => iteT ⟨fun σ' H' => ∃ Cj Nj ρj, CLe C Cj ∧ EI X.K Cj Nj H' σ' ρj ∧ Same N Nj ∧ sWhile c s m ρj = some (fl, ρ'), fun σ' H' h' => ⟨m, Nat.lt_succ_self _, h'⟩, ?_⟩⟩
        have sN := si.trans s1
        split at ei
        · cases ei
        · rename_i ρb eb
          exact ⟨Ci, N1, ρ1, .next, ρb, ci.lk.trans hk, I1, eb, fun C5 N5 σ5 H5 c5 I5 s5 => ⟨C5, N5, ρb, ci.trans c5, I5, sN.trans s5, ei⟩⟩
        · rename_i ρb eb
          exact ⟨Ci, N1, ρ1, .cont, ρb, ci.lk.trans hk, I1, eb, fun C5 N5 σ5 H5 c5 I5 s5 => ⟨C5, N5, ρb, ci.trans c5, I5, sN.trans s5, ei⟩⟩
        · rename_i ρb eb
          cases ei
          exact ⟨Ci, N1, ρ1, .brk, _, ci.lk.trans hk, I1, eb, fun C5 N5 σ5 H5 c5 I5 s5 => o C5 N5 σ5 H5 (ci.trans c5) I5 (sN.trans s5)⟩
        · rename_i xr ρb eb
          cases ei
          exact ⟨Ci, N1, ρ1, .ret xr, _, ci.lk.trans hk, I1, eb, fun C5 N5 σ5 H5 v c5 I5 s5 ro => o C5 N5 σ5 H5 v (ci.trans c5) I5 (sN.trans s5) ro⟩
end
end Ev
/-! Ev: a def from its body, the law's head. -/
namespace Ev
open PySem PySem.Spec L2

def pvS (d : PyData) : Slot := .val (!sc d) d
def initE (gm : GM) (len : Nat) (gs ds : List PyData) : En := match gm with
  | .no => ds.map pvS ++ List.replicate (len - ds.length) .un
  | .bo => .bor gs :: (ds.map pvS ++ List.replicate (len - (ds.length + 1)) .un)
  | .rd => .ro gs :: (ds.map pvS ++ List.replicate (len - (ds.length + 1)) .un)
def refR (r : Res) : Res := match r.m, r.d with
  | .fr, .list xs => ⟨.list xs, r.t && !xs.all sc, .fr⟩
  | .sh, d => ⟨d, r.t && !sc d, .sh⟩
  | _, _ => r
def endF (gm : GM) (r : Res) (ρ : En) : Option (Res × List PyData) := if okm r.m then match gm with
  | .bo => match (ρ[0]? : Option Slot) with
    | some (Slot.bor gs') => some (refR r, gs')
    | _ => none
  | _ => some (refR r, []) else none
def runF (gm : GM) (len : Nat) (body : SS) : Fn := fun gs ds => match body (initE gm len gs ds) with
  | some (.ret r, ρ') => endF gm r ρ'
  | some (.next, ρ') => endF gm ⟨.none, false, .sh⟩ ρ'
  | _ => none

theorem len_init {gm : GM} {len : Nat} {gs ds : List PyData} (h : hn gm + ds.length ≤ len) : (initE gm len gs ds).length = len := by
  cases gm with
  | no =>
    have h : 0 + ds.length ≤ len := h
    simp only [initE, List.length_append, List.length_map, List.length_replicate]
    omega
  | bo =>
    have h : 1 + ds.length ≤ len := h
    simp only [initE, List.length_append, List.length_map, List.length_replicate, List.length_cons]
    omega
  | rd =>
    have h : 1 + ds.length ≤ len := h
    simp only [initE, List.length_append, List.length_map, List.length_replicate, List.length_cons]
    omega
theorem same_pv {C : Ctx} : Same C.FA (Ft C nohp true) := fun a o e => e
theorem pv_ok {K : PySem.W.Frag} {C : Ctx} {H : Hp} {v : V} {d : PyData} {o : Option (Option V)} (e : o = some (some v)) (h : Dp [] C.FA v d) : SlotOk K C nohp H o (pvS d) := by
  refine ⟨v, e, ?_⟩
  cases hs : sc d with
  | true => exact dp_sc hs h
  | false =>
    rw [Bool.not_false]
    exact dp_mono same_pv d v h
theorem slots_ok {K : PySem.W.Frag} {C : Ctx} {H : Hp} : ∀ {ws : List V} {ds : List PyData} (_ : DpAll [] C.FA ws ds) (m k : Nat) {j : Nat} {s : Slot}, (ds.map pvS ++ List.replicate m .un)[j]? = some s → SlotOk K C nohp H ((ws.map some ++ List.replicate k none)[j]?) s ∧ ¬ isOwn (some s)
  | _, _, .nil, m, k, j, s, e => by
    rw [List.map_nil, List.nil_append, List.getElem?_replicate] at e
    split at e
    · cases e; exact ⟨trivial, fun z => z⟩
    · cases e
  | _, _, .cons h1 h2, m, k, 0, s, e => by
    have e : some (pvS _) = some s := e
    cases e
    exact ⟨pv_ok rfl h1, fun z => z⟩
  | _, _, .cons h1 h2, m, k, j + 1, s, e => slots_ok h2 m k (j := j) e
/-- the state at a def's entry -/
theorem init_ei {K : PySem.W.Frag} {gm : GM} {N : List Str} {H FA R : Hp} {g : Option Addr} {gs ds : List PyData} {hv ws : List V} (hh : Head K H FA R gs gm g hv) (f1 : Same FA H) (f2 : Same R H) (nf : NoFz FA) (hd : DpAll [] FA ws ds) (hl : (hv ++ ws).length ≤ N.length) (lk : Bool) :
    EI K ⟨g, fun a => if g = some a then none else H a, FA, R, lk⟩ nohp H (L2.start N (hv ++ ws)) (initE gm N.length gs ds) := by
  have hlen : hn gm + ds.length ≤ N.length := by rw [List.length_append, hh.len, hd.len] at hl; exact hl
  have gfa : ∀ a, g = some a → FA a = none ∧ R a = none ∧ ∃ xs, H a = some (.lst xs) := fun a e => by
    cases gm with
    | no => obtain ⟨rfl, _⟩ := hh; cases e
    | bo =>
      obtain ⟨b, xs, rfl, _, h1, h2, h3, _⟩ := hh
      cases e
      exact ⟨h1, h2, xs, h3⟩
    | rd => obtain ⟨b, xs, rfl, _⟩ := hh; cases e
  have sH : Same (fun a => if g = some a then none else H a) H := fun a o e => by
    have e : (if g = some a then none else H a) = some o := e
    split at e
    · cases e
    · exact e
  have toH0 : ∀ F : Hp, Same F H → (∀ a, g = some a → F a = none) → Same F (fun a => if g = some a then none else H a) := fun F s z a o e => by
    show (if g = some a then none else H a) = some o
    rw [if_neg (fun q => by rw [z a q] at e; cases e)]
    exact s a o e
  have key : ∀ (i : Nat) s, (initE gm N.length gs ds)[i]? = some s → SlotOk K ⟨g, fun a => if g = some a then none else H a, FA, R, lk⟩ nohp H ((L2.start N (hv ++ ws))[i]?) s ∧ ¬ isOwn (some s) := fun i s e => by
    unfold L2.start
    cases gm with
    | no =>
      obtain ⟨_, rfl, _⟩ := hh
      rw [List.nil_append] at hl ⊢
      exact slots_ok (C := ⟨g, fun a => if g = some a then none else H a, FA, R, lk⟩) hd _ _ e
    | bo =>
      obtain ⟨a, xs, rfl, rfl, h1, h2, h3, h4⟩ := hh
      cases i with
      | zero =>
        have e : some (Slot.bor gs) = some s := e
        cases e
        exact ⟨⟨a, xs, rfl, rfl, h3, h4⟩, fun z => z⟩
      | succ i => exact slots_ok (C := ⟨some a, fun b => if some a = some b then none else H b, FA, R, lk⟩) hd _ _ (j := i) e
    | rd =>
      obtain ⟨a, xs, rfl, rfl, h1, h2⟩ := hh
      cases i with
      | zero =>
        have e : some (Slot.ro gs) = some s := e
        cases e
        exact ⟨⟨a, xs, rfl, h1, h2⟩, fun z => z⟩
      | succ i => exact slots_ok (C := ⟨none, fun b => if none = some b then none else H b, FA, R, lk⟩) hd _ _ (j := i) e
  have noOwn : ∀ i : Nat, ¬ isOwn (initE gm N.length gs ds)[i]? := fun i hi => by
    cases q : (initE gm N.length gs ds)[i]? with
    | none => rw [q] at hi; exact hi
    | some s => rw [q] at hi; exact (key i s q).2 hi
  refine ⟨sH, (toH0 FA f1 (fun a e => (gfa a e).1)), (toH0 R f2 (fun a e => (gfa a e).2.1)), same_no, (fun a o e => by cases e), nf, (fun a o u e => by cases e), (fun a e => ⟨?_, rfl, (gfa a e).2.2⟩), ?_, (fun i s e => (key i s e).1), (fun i j _ hi => (noOwn i hi).elim)⟩
  · show (if g = some a then none else H a) = none
    rw [if_pos e]
  · rw [len_init hlen]
    unfold L2.start
    rw [List.length_append, List.length_map, List.length_replicate]
    omega
/-- what stands at a def's end -/
theorem end_post {K : PySem.W.Frag} {gm : GM} {H FA R : Hp} {g : Option Addr} {gs gs' : List PyData} {hv : List V} (hh : Head K H FA R gs gm g hv) {lk : Bool} (hlk : lk = (gm == .bo)) {C' : Ctx} {N' H' : Hp} {σ' : St} {ρ' : En} {r r' : Res} {v : V}
    (c : CLe ⟨g, fun a => if g = some a then none else H a, FA, R, lk⟩ C') (I : EI K C' N' H' σ' ρ') (ro : RO K C' N' H' σ' ρ' r v) (e : endF gm r ρ' = some (r', gs')) : Post g FA H r' gs' v H' N' := by
  unfold endF at e
  split at e
  · rename_i hm
    have h0 := c.h0
    have fa := c.fa
    have k0 : ∀ a o, H a = some o → g ≠ some a → H' a = some o := fun a o q z => I.h0 a o (by
      rw [h0]
      show (if g = some a then none else H a) = some o
      rw [if_neg z]
      exact q)
    have g0 : ∀ a, g = some a → gm = .bo ∧ C'.g = some a := fun a z => by
      cases gm with
      | no => obtain ⟨rfl, _⟩ := hh; cases z
      | rd => obtain ⟨_, _, rfl, _⟩ := hh; cases z
      | bo => exact ⟨rfl, (c.g (by rw [hlk]; rfl)).trans z⟩
    have hfree : ∀ a, C'.H0 a = none → C'.g ≠ some a → H a = none := fun a q z => by
      rw [h0] at q
      have q : (if g = some a then none else H a) = none := q
      rw [if_neg (fun y => z (g0 a y).2)] at q
      exact q
    have eft : ∀ b : Bool, Ft C' N' b = if b then ov N' FA else N' := fun b => by unfold Ft; rw [fa]
    have main : ∀ gs'', (∀ a, g = some a → ∃ xs, H' a = some (.lst xs) ∧ DpAll [] nohp xs gs'') → Post g FA H (refR r) gs'' v H' N' := fun gs'' hgl => by
      refine ⟨k0, I.n, fun a o q => hfree a (I.nn a o q) (fun z => ?_), fun a o u => I.nz a o u, hgl, ?_⟩
      · rw [(I.gg a z).2.1] at q; cases q
      · obtain ⟨d, t, m⟩ := r
        cases m with
        | sh =>
          have ro : Dp [] (Ft C' N' t) v d := ro
          show Dp [] (if (t && !sc d) then ov N' FA else N') v d
          rw [← eft]
          exact I.refine ro
        | fr =>
          obtain ⟨a, vs, ds, e1, rfl, e2, e3, e4, e5, e6, e7⟩ := ro
          simp only at e1
          subst e1
          refine ⟨a, vs, ds, rfl, rfl, e2, e3, hfree a e4 e5, ?_⟩
          show DpAll [] (if (t && !ds.all sc) then ov N' FA else N') vs ds
          rw [← eft]
          have e7 : DpAll [] (Ft C' N' t) vs ds := e7
          cases hs : ds.all sc with
          | true => exact dpAll_sc hs e7
          | false => rw [Bool.not_false, Bool.and_true]; exact e7
        | pk => cases hm
        | kk => cases hm
    split at e
    · split at e
      · rename_i q
        cases e
        refine main _ fun a z => ?_
        obtain ⟨b, xs, y1, y2, y3, y4⟩ := I.sl 0 _ q
        rw [(g0 a z).2] at y2
        cases y2
        exact ⟨xs, y3, y4⟩
      · cases e
    · rename_i hgm
      cases e
      refine main _ fun a z => ?_
      exact absurd (g0 a z).1 (by first | exact hgm | (intro q; exact hgm q))
  · cases e

section
variable {P : Program} {w : World} {K : PySem.W.Frag} {mg : Str → Option Value} {base : Heap}
/-- the context in which a def's body runs -/
structure BodyCx (P : Program) (w : World) (K : PySem.W.Frag) (mg : Str → Option Value) (base : Heap) (N : List Str) (sc : Scope) (k : Nat) (X : Cx) : Prop where
  prog : X.prog = P
  w : X.w = w
  K : X.K = K
  mg : X.mg = mg
  base : X.base = base
  N : X.N = N
  room : Room k X.A
  gd : X.A.guards = some []
  calm : X.calm = true
  sc : X.env.scope = sc
theorem fnG {x qual : Str} {st : Stmt} {f : Addr} {fd : FuncData} {N ps : List Str} {k n : Nat} {gm : GM} {body : SS} (F : Fun K x qual st f fd) (S : FnScope N ps (defScope st)) (hps : ps.length = hn gm + n)
    (hbody : ∀ (cdv : Value) (A : Around) (outer : List Env) (s : Shared) (H : Hp) (E : XK), Room k (A.deeper (PyProof.Rows.envOfC qual (defScope st) s.heap.objs.size f cdv)) → A.guards = some [] →
      DSs (cxOf CX0 P w K mg base N qual (defScope st) f cdv A outer s H E).nox (gm == .bo) (defBody st) body) : FnG P w K mg base (k + 1) f fd ps (spF K gm n (runF gm N.length body)) := by
  obtain ⟨oc, od, kV, doc, pm, an, cdv, ct, osl, rfl, lk, hcd⟩ := F.ex
  have plen : ps.length ≤ N.length := by have := congrArg List.length S.pre; rw [List.length_take] at this; omega
  refine ⟨fun vs H Q E q => (spF_len q).trans hps.symm, fun A outer s H args us vs Q E hr hg e0 hb r hsp => ?_⟩
  have hl : vs.length = ps.length := (spF_len hsp).trans hps.symm
  obtain ⟨g, FA, R, gs, ds, hv, ws, res, gs', rfl, h1, hh, h3, h4, h5, h6, h7, h8⟩ := hsp
  have KX : K.In s.heap := e0.mod.kin.keeps fun b o e => (e0.bs b o e).1
  have lim : s.heap.NoLimit := e0.mod.nolimit.keeps fun b o e => (e0.bs b o e).1
  have kinds : ∀ y ∈ ps.zip us, (defScope st).names.lookup y.1 = some .local ∨ ((defScope st).names.lookup y.1 = some .cell ∧ ((PySem.cellsFrom (s.heap.objs.size + 1) (defScope st).names []).lookup y.1).isSome = true) := by
    rintro ⟨a, b⟩ hy
    rcases S.par a (List.of_mem_zip hy).1 with q | q
    · exact .inl q
    · exact .inr ⟨q, PySem.W.cellsFrom_some _ _ _ (.inl q)⟩
  refine codeAny_call_function hr.depth (KX _ _ lk) rfl S.co S.gen rfl (PySem.W.codeRec_of KX hcd) (hb _ _ _ _ ?_)
  refine wpAny_newFunctionEnv_cells S.kind kinds fun env he s1 x => ?_
  subst he
  refine ⟨lim.keeps x.toInCall.keep, codeAny_func ?_⟩
  have I := inv_start (CX := CX0) (E := E) S hr.hd e0 hl r x
  have B := hbody cdv A outer s H E (hr.deeper _) hg
  have EI0 := init_ei (gm := gm) (N := N) hh h3 h4 h5 h6 (by rw [hl]; exact plen) (gm == .bo)
  unfold runF at h7
  have fin : ∀ {fl : Fl} {ρ' : En} {rr : Res}, body (initE gm N.length gs ds) = some (fl, ρ') → (fl = .ret rr ∨ (fl = .next ∧ rr = ⟨.none, false, .sh⟩)) → endF gm rr ρ' = some (res, gs') →
      tS K (gm == .bo) body { nx := fun _ H' => Q .non H', rt := Q } (L2.start N (hv ++ ws)) H := fun {fl ρ' rr} eb hf ee => by
    refine ⟨_, nohp, _, fl, ρ', rfl, EI0, eb, ?_⟩
    rcases hf with rfl | ⟨rfl, rfl⟩
    · exact fun C' N' σ' H' v c I' s' ro => h8 v H' N' (end_post hh rfl c I' ro ee)
    · exact fun C' N' σ' H' c I' s' => h8 .non H' N' (end_post hh rfl c I' (show RO K C' N' H' σ' ρ' ⟨.none, false, .sh⟩ V.non from (Dp.non : Dp [] (Ft C' N' false) V.non PyData.none)) ee)
  have go : tS K (gm == .bo) body { nx := fun _ H' => Q .non H', rt := Q } (L2.start N (hv ++ ws)) H := by
    split at h7
    · rename_i rr ρ' eb
      exact fin eb (.inl rfl) h7
    · rename_i ρ' eb
      exact fin eb (.inr ⟨rfl, rfl⟩) h7
    · cases h7
  refine wpAny_mono (B.nox.run [] s1 (L2.start N (hv ++ ws)) H _ I go) (fun fl s' hs => ?_) fun e s' hs => hs
  cases fl with
  | ret u =>
    obtain ⟨v, σ', H', J, rv, q⟩ := hs
    exact ⟨v, H', J.os, J.bare, J.base, J.hok, rv, q⟩
  | next =>
    obtain ⟨σ', H', J, q⟩ := hs
    exact ⟨.non, H', J.os, J.bare, J.base, J.hok, rfl, q⟩
  | brk => obtain ⟨_, _, _, q⟩ := hs; exact q.elim
  | cont => obtain ⟨_, _, _, q⟩ := hs; exact q.elim
end
end Ev
/-! Ev: the law's head. -/
namespace Ev
open PySem PySem.Spec L2

/-- the one tracked thing at the top: the script, as it was handed in (unless the module owns it) -/
def scO (vs : List Value) : Obj := { cls := .type "list", data := .seq vs.toArray }
def scH (K : PySem.W.Frag) (a : Addr) (vs : List Value) (ns : List Int) : Hp := fun b => if b = a ∧ (K.lookup a).isNone = true then some (.frz (scO vs) (.lst (ns.map V.int))) else none
section
variable {P : Program} {w : World} {K : PySem.W.Frag} {mg mb : Str → Option Value} {a : Addr} {vs : List Value} {ns : List Int} {s : Shared}
theorem scH_yes {b : Addr} {o : HO} (e : scH K a vs ns b = some o) : b = a ∧ K.lookup a = none ∧ o = .frz (scO vs) (.lst (ns.map V.int)) := by
  unfold scH at e
  split at e
  · rename_i h
    cases e
    exact ⟨h.1, Option.isNone_iff_eq_none.mp h.2, rfl⟩
  · cases e
theorem scH_no {b : Addr} (h : ∀ o, scH K a vs ns b ≠ some o) : scH K a vs ns b = none := by
  cases e : scH K a vs ns b with
  | none => rfl
  | some o => exact absurd e (h o)
theorem scH_hok (ha : s.heap.get? a = some (scO vs)) (hi : PyProof.Rows.IntsAre vs ns) (hl : ns.length ≤ sizeLine) : HOk P w (scH K a vs ns) s.heap := fun b u e => by
  obtain ⟨rfl, _, rfl⟩ := scH_yes e
  exact ⟨ha, by rw [List.length_map]; exact hl, vs, _, vals_ints hi, ha⟩
theorem scH_seq (KX : K.In s.heap) (ha : s.heap.get? a = some (scO vs)) (hi : PyProof.Rows.IntsAre vs ns) (hl : ns.length ≤ sizeLine) : SqL K (scH K a vs ns) a (ns.map V.int) := by
  cases hk : K.lookup a with
  | none => exact .inl (.inr ⟨scO vs, if_pos ⟨rfl, by rw [hk]; rfl⟩⟩)
  | some o =>
    have e := KX a o hk
    rw [ha] at e
    cases e
    exact .inr ⟨_, vs.toArray, _, hk, rfl, rfl, rfl, by rw [List.size_toArray, PyProof.Rows.IntsAre.length hi]; exact hl, by simpa using vals_ints hi⟩
/-- what is not the script stands below -/
theorem scH_base {b : Addr} {o : Obj} (KX : K.In s.heap) (ha : s.heap.get? a = some (scO vs)) (e : s.heap.get? b = some o) (hd : b ≠ a ∨ (K.lookup b).isSome = true) : (hidT s.heap (scH K a vs ns)).get? b = some o :=
  hidT_get e (scH_no fun u z => by
    obtain ⟨rfl, q, _⟩ := scH_yes z
    rcases hd with h | h
    · exact h rfl
    · rw [q] at h; cases h)
theorem scH_ns {b : Addr} {m : Str → Option Value} (KX : K.In s.heap) (ha : s.heap.get? a = some (scO vs)) : s.heap.Ns b m → (hidT s.heap (scH K a vs ns)).Ns b m := fun ⟨o, es, ep, e, d, r⟩ =>
  ⟨o, es, ep, scH_base KX ha e (.inl fun z => by
    subst z
    rw [ha] at e
    cases e
    cases d), d, r⟩
theorem int_dps {F : Hp} : ∀ ns : List Int, DpAll [] F (ns.map V.int) (ns.map PyData.int)
  | [] => .nil
  | n :: ns => .cons (.int n) (int_dps ns)
theorem law_goes {k : Nat} {fa : Addr} {fd : FuncData} {x : Str} {F : Fn} {t : Bool} (KX : K.In s.heap) (hns : s.heap.Ns mainGlobals mg) (hb : s.heap.Ns builtinsNs mb) (hbb : ∀ x : Str, x ≠ "__name__" → mb x = bootBuiltins x) (hlim : s.heap.NoLimit) (hg : s.gens = #[])
    (ha : s.heap.get? a = some (scO vs)) (hi : PyProof.Rows.IntsAre vs ns) (hl : ns.length ≤ sizeLine) (hr : Room k callerA)
    (G : ∀ base : Heap, K.In base → base.Ns mainGlobals mg → FnG P w K mg base k fa fd [x] (spF K .rd 0 F)) (hbind : ∀ (s : Shared) (u : Value), BindsTo s fd ⟨[u], []⟩ [(x, u)])
    (hF : F (ns.map PyData.int) [] = some (⟨.bool true, t, .sh⟩, [])) :
    codeAny (model P w) callerA (.call (.ref fa) ⟨[.ref a], []⟩) (fun r s' => r = .ok (.ret (.bool true)) ∧ OldK s.heap s'.heap ∧ s'.os = s.os ∧ PyProof.Rows.AllBare s'.gens) s := by
  have hB : K.In (hidT s.heap (scH K a vs ns)) := fun b o e => scH_base KX ha (KX b o e) (.inr (by rw [e]; rfl))
  have hN := scH_ns (ns := ns) KX ha hns
  have hok : HOk P w (scH K a vs ns) s.heap := scH_hok ha hi hl
  have hM : Mod K mg (hidT s.heap (scH K a vs ns)) := ⟨hB, hN, ⟨mb, scH_ns KX ha hb, hbb⟩, let ⟨mc, h1, h2⟩ := hlim; ⟨mc, scH_ns KX ha h1, h2⟩⟩
  have e0 : Env0 P w K mg (hidT s.heap (scH K a vs ns)) callerA [] s (scH K a vs ns) := ⟨rfl, hM, fun b o e => of_hidT e, Nat.le_of_eq (hidT_size _ _), trivial, fun b hb => (List.not_mem_nil hb).elim, hok, .of_eq hg⟩
  refine codeAny_mono ((G _ hB hN).run callerA [] s (scH K a vs ns) ⟨[.ref a], []⟩ [.ref a] [.ref a] (fun v _ => v = .bl true) (fun _ _ _ => False) hr rfl e0 (hbind s (.ref a)) (.cons rfl .nil)
    ⟨none, nohp, scH K a vs ns, ns.map .int, [], [.ref a], [], ⟨.bool true, t, .sh⟩, [], rfl, rfl, ⟨a, _, rfl, rfl, scH_seq KX ha hi hl, int_dps ns⟩, (fun b o e => by cases e), (fun b o e => e), (fun b o u e => by cases e), .nil, hF, fun v H' N h => ?_⟩) fun r s' h => ?_
  · have h : Dp [] (if t then ov N nohp else N) v (.bool true) := h.rf
    cases h
    rfl
  · cases r with
    | error e => exact h.elim
    | ok fl =>
      cases fl with
      | next => exact False.elim h
      | brk => exact False.elim h
      | cont => exact False.elim h
      | ret u =>
        obtain ⟨v, H', os, bare, un, hok', r', q⟩ := h
        have q : v = .bl true := q
        subst q
        have r' : u = Value.bool true := r'
        subst r'
        refine ⟨rfl, OldK.of_keep fun b o e => ?_, os, bare⟩
        cases q : scH K a vs ns b with
        | none => exact un.keep b o e q List.not_mem_nil List.not_mem_nil
        | some u =>
          obtain ⟨rfl, _, rfl⟩ := scH_yes q
          have e2 := (hok' b _ (un.frzs b _ _ q)).1
          rw [ha] at e
          cases e
          exact e2
end
/-- the goal that k_head leaves (case hc), from the law's meaning -/
theorem walk_ev {l : PySem.W.OpenLaw} {n k : Nat} {q : Program} {loose : List Str} {XP : (Str → Option Value) → Heap → Prop} {YP : World → Heap → Prop} {d : DefRec} {K : Params → PySem.W.Frag} {x : Str} {F : Fn}
    (hn : l.most = some n) (hn2 : n ≤ sizeLine) (hdf : d.params.defaults = []) (hr : Room k callerA)
    (hY : ∀ (w : World) (h : Heap), YP w h → (K w.params).In h)
    (G : ∀ (w : World) (mg : Str → Option Value) (fa : Addr) (h : Heap), (K w.params).In h → h.Ns mainGlobals mg → mg d.name = some (.ref fa) →
      ∃ fd : FuncData, (∀ (s : Shared) (u : Value), BindsTo s fd ⟨[u], []⟩ [(x, u)]) ∧
        ∀ base : Heap, (K w.params).In base → base.Ns mainGlobals mg → FnG l.prog w (K w.params) mg base k fa fd [x] (spF (K w.params) .rd 0 F))
    (hF : ∀ ns : List Int, ns.length ≤ n → ∃ t, F (ns.map PyData.int) [] = some (⟨.bool true, t, .sh⟩, [])) :
    PySem.W.WalkO q loose XP YP l.row.toRowW d [] (fun f vs => PySem.call f vs) := by
  refine Att.attach_call hn hdf fun w s₀ s₁ mg mb fa o pm cd doc a vs ns G' Y ho hd hcd hmg hobj hints hlen hg => ?_
  have KX := hY w _ Y
  obtain ⟨fd, hb, hG⟩ := G w mg fa _ KX G'.T.g hmg
  obtain ⟨t, hF⟩ := hF ns hlen
  exact law_goes KX G'.T.g G'.T.b G'.T.builtins G'.T.nolimit hg hobj hints (Nat.le_trans hlen hn2) hr hG hb hF
end Ev
/-! Ev: list(range(..)) and more. -/
namespace Ev
open PySem PySem.Spec L2

theorem dp_rng {F : Hp} (a b : Int) : DpAll [] F (rgV a b) (rngD a b) := by
  unfold rgV rngD
  generalize (List.range (b - a).toNat) = l
  induction l with
  | nil => exact .nil
  | cons i l ih => exact .cons (.int (a + (i : Int))) ih
theorem rgOk_of {a b : Int} (h : decide (-(2 ^ 62) ≤ a ∧ a < 2 ^ 62 ∧ -(2 ^ 62) ≤ b ∧ b < 2 ^ 62 ∧ (b - a).toNat ≤ 2 ^ 24) = true) : RgOk a b := by
  have q := of_decide_eq_true h
  exact q
def rgOk (a b : Int) : Bool := decide (-(2 ^ 62) ≤ a ∧ a < 2 ^ 62 ∧ -(2 ^ 62) ≤ b ∧ b < 2 ^ 62 ∧ (b - a).toNat ≤ 2 ^ 24)
def sLR1 (s : SE) : SE := fun ρ => match s ρ with
  | some (⟨.int j, _, _⟩, ρ1) => if rgOk 0 j then some (⟨.list (rngD 0 j), false, .fr⟩, ρ1) else none
  | _ => none
def sLR2 (s u : SE) : SE := fun ρ => match s ρ with
  | some (⟨.int i, _, _⟩, ρ1) => match u ρ1 with
    | some (⟨.int j, _, _⟩, ρ2) => if rgOk i j then some (⟨.list (rngD i j), false, .fr⟩, ρ2) else none
    | _ => none
  | _ => none
section
variable {X : Cx} {pos p pl : Pos} {a b : Expr} {sa sb : SE}
theorem d_listRg1 (hc : X.calm = true) (hl : Gl X "list") (hlm : X.mg "list" = none) (hg : Gl X "range") (hm : X.mg "range" = none) (ha : DE X a sa)
    (hs : starEach [a] X.env = (false, eval a X.env) :: starEach [] X.env := by rfl) (hs2 : starEach [.Call (.Name "range" p) [a] [] pos] X.env = (false, eval (.Call (.Name "range" p) [a] [] pos) X.env) :: starEach [] X.env := by rfl) {po : Pos} :
    DE X (.Call (.Name "list" pl) [.Call (.Name "range" p) [a] [] pos] [] po) (sLR1 sa) :=
  PE.imp (pe_listRg hc hl hlm (prg_1 hg hm ha hs) hs2) fun σ H Q ⟨C, N, ρ, r, ρ', I, e, fin⟩ => by
    unfold sLR1 at e
    split at e
    · rename_i j t m ρ1 e1
      split at e
      · rename_i hok
        cases e
        refine ⟨C, N, ρ, _, _, I, e1, fun v N1 H1 I1 k1 s1 ro nw => ⟨j, ra_int (I1.ra ro) rfl, rgOk_of hok, fun q hq => (fin.after k1 s1).newL I1 (dp_rng 0 j) hq⟩⟩
      · cases e
    · cases e
theorem d_listRg2 (hc : X.calm = true) (hl : Gl X "list") (hlm : X.mg "list" = none) (hg : Gl X "range") (hm : X.mg "range" = none) (ha : DE X a sa) (hb : DE X b sb)
    (hs : starEach [a, b] X.env = (false, eval a X.env) :: starEach [b] X.env := by rfl) (hsb : starEach [b] X.env = (false, eval b X.env) :: starEach [] X.env := by rfl) (hpp : (backTo pos (starEach [b] X.env)).any (·.1) = false := by rfl)
    (hs2 : starEach [.Call (.Name "range" p) [a, b] [] pos] X.env = (false, eval (.Call (.Name "range" p) [a, b] [] pos) X.env) :: starEach [] X.env := by rfl) {po : Pos} :
    DE X (.Call (.Name "list" pl) [.Call (.Name "range" p) [a, b] [] pos] [] po) (sLR2 sa sb) :=
  PE.imp (pe_listRg hc hl hlm (prg_2 hg hm ha hb hs hsb hpp) hs2) fun σ H Q ⟨C, N, ρ, r, ρ', I, e, fin⟩ => by
    unfold sLR2 at e
    split at e
    · rename_i i t m ρ1 e1
      split at e
      · rename_i j t2 m2 ρ2 e2
        split at e
        · rename_i hok
          cases e
          refine ⟨C, N, ρ, _, _, I, e1, fun v N1 H1 I1 k1 s1 ro nw => ⟨C, N1, ρ1, _, _, I1, e2, fun u N2 H2 I2 k2 s2 ro2 nw2 => ⟨i, j, ra_int (I1.ra ro) rfl, ra_int (I2.ra ro2) rfl, rgOk_of hok, fun q hq => ((fin.after k1 s1).after k2 s2).newL I2 (dp_rng i j) hq⟩⟩⟩
        · cases e
      · cases e
    · cases e
end
end Ev
/-! Ev: what a meaning comes to, read from the left. -/
namespace Ev
open PySem PySem.Spec L2

def OV {α : Type} (o : Option α) (P : α → Prop) : Prop := match o with
  | some a => P a
  | none => False
def EV (s : SE) (ρ : En) (P : Res → En → Prop) : Prop := OV (s ρ) fun p => P p.1 p.2
def TV (s : ST) (ρ : En) (P : Bool → En → Prop) : Prop := OV (s ρ) fun p => P p.1 p.2
def AV (s : SA) (ρ : En) (P : List PyData → Bool → En → Prop) : Prop := OV (s ρ) fun p => P p.1 p.2.1 p.2.2
def PV (s : SP) (ρ : En) (P : List PyData → En → Prop) : Prop := OV (s ρ) fun p => P p.1 p.2
def QV (s : SQ) (ρ : En) (P : List PyData → Option Bool → En → Prop) : Prop := OV (s ρ) fun p => P p.1 p.2.1 p.2.2
def IV (s : SO) (ρ : En) (P : Option Int → En → Prop) : Prop := OV (s ρ) fun p => P p.1 p.2
def SV (s : SS) (ρ : En) (P : Fl → En → Prop) : Prop := OV (s ρ) fun p => P p.1 p.2
def GV (g : SG) (d : PyData) (t : Bool) (ρ : En) (P : En → Prop) : Prop := OV (g d t ρ) P
def GsV (g : SGs) (d : List PyData) (t : Bool) (ρ : En) (P : En → Prop) : Prop := OV (g d t ρ) P
def FV (F : Fn) (gs ds : List PyData) (P : Res → List PyData → Prop) : Prop := OV (F gs ds) fun p => P p.1 p.2
section
variable {α β : Type}
theorem ov_some {a : α} {P : α → Prop} : OV (some a) P = P a := rfl
theorem ov_none {P : α → Prop} : OV (none : Option α) P = False := rfl
theorem ov_of {o : Option α} {P : α → Prop} : OV o P ↔ ∃ a, o = some a ∧ P a := by
  cases o with
  | none => exact ⟨fun h => h.elim, fun ⟨a, e, _⟩ => nomatch e⟩
  | some a => exact ⟨fun h => ⟨a, rfl, h⟩, fun ⟨b, e, h⟩ => by cases e; exact h⟩
theorem ov_mono {o : Option α} {P Q : α → Prop} (h : OV o P) (i : ∀ a, P a → Q a) : OV o Q := by
  cases o with
  | none => exact h
  | some a => exact i a h
theorem ov_if {c : Prop} [Decidable c] {o : Option α} {P : α → Prop} : OV (if c then o else none) P = (c ∧ OV o P) := by
  by_cases h : c
  · rw [if_pos h]; exact propext ⟨fun q => ⟨h, q⟩, fun q => q.2⟩
  · rw [if_neg h]; exact propext ⟨fun q => q.elim, fun q => (h q.1).elim⟩
theorem ov_sr {d : PyData} {P : Res → Prop} : OV (sr d) P = P ⟨d, false, .sh⟩ := rfl
end
section
variable {ρ : En} {P : Res → En → Prop} {s a b : SE} {c : ST} {sa : SA}
theorem we_lit {d : PyData} : EV (sLit d) ρ P = P ⟨d, false, .sh⟩ ρ := rfl
theorem we_globL {ds : List PyData} : EV (sGlobL ds) ρ P = P ⟨.list ds, false, .kk⟩ ρ := rfl
def rdS : Option Slot → (Res → Prop) → Prop
  | some (.val t d), P => P ⟨d, t, .sh⟩
  | some (.own t xs), P => P ⟨.list xs, t, .pk⟩
  | some (.ro xs), P => P ⟨.list xs, false, .kk⟩
  | _, _ => False
def rdF (i : Nat) (ρ : En) : Option Slot → (Res → En → Prop) → Prop
  | some (.val t d), P => P ⟨d, t, .sh⟩ ρ
  | some (.own t xs), P => P ⟨.list xs, t, .sh⟩ (ρ.set i (.val t (.list xs)))
  | _, _ => False
theorem we_var {i : Nat} : EV (sVar i) ρ P = rdS ρ[i]? fun r => P r ρ := by
  simp only [EV, sVar]
  cases ρ[i]? with
  | none => rfl
  | some sl => cases sl <;> rfl
theorem we_varF {i : Nat} : EV (sVarF i) ρ P = rdF i ρ ρ[i]? P := by
  simp only [EV, sVarF]
  cases ρ[i]? with
  | none => rfl
  | some sl => cases sl <;> rfl
theorem we_1 {f : Res → Option Res} : EV (s1 f a) ρ P = EV a ρ fun x ρ1 => OV (f x) fun r => P r ρ1 := by
  simp only [EV, s1]
  cases a ρ with
  | none => rfl
  | some p =>
    obtain ⟨x, ρ1⟩ := p
    simp only [ov_some]
    cases f x <;> rfl
theorem we_2 {f : Res → Res → Option Res} : EV (s2 f a b) ρ P = EV a ρ fun x ρ1 => EV b ρ1 fun y ρ2 => OV (f x y) fun r => P r ρ2 := by
  simp only [EV, s2]
  cases a ρ with
  | none => rfl
  | some p =>
    obtain ⟨x, ρ1⟩ := p
    simp only [ov_some]
    cases b ρ1 with
    | none => rfl
    | some p =>
      obtain ⟨y, ρ2⟩ := p
      simp only [ov_some]
      cases f x y <;> rfl
theorem we_lst : EV (sLst sa) ρ P = AV sa ρ fun ds t ρ1 => ds.length ≤ sizeLine ∧ P ⟨.list ds, t, .fr⟩ ρ1 := by
  simp only [EV, sLst, AV]
  cases sa ρ with
  | none => rfl
  | some p =>
    obtain ⟨ds, t, ρ1⟩ := p
    simp only [ov_if, ov_some]
theorem we_tup : EV (sTup sa) ρ P = AV sa ρ fun ds t ρ1 => ds.length ≤ sizeLine ∧ P ⟨.tuple ds, t, .sh⟩ ρ1 := by
  simp only [EV, sTup, AV]
  cases sa ρ with
  | none => rfl
  | some p =>
    obtain ⟨ds, t, ρ1⟩ := p
    simp only [ov_if, ov_some]
theorem we_not : EV (sNotV a) ρ P = EV a ρ fun x ρ1 => OV (tru x.d) fun b => P ⟨.bool (!b), false, .sh⟩ ρ1 := by
  simp only [EV, sNotV]
  cases a ρ with
  | none => rfl
  | some p =>
    obtain ⟨x, ρ1⟩ := p
    simp only [ov_some]
    cases tru x.d <;> rfl
theorem we_and : EV (sAndV a b) ρ P = EV a ρ fun x ρ1 => OV (tru x.d) fun q => if q = true then EV b ρ1 P else P x ρ1 := by
  simp only [EV, sAndV]
  cases a ρ with
  | none => rfl
  | some p =>
    obtain ⟨x, ρ1⟩ := p
    simp only [ov_some]
    cases tru x.d with
    | none => rfl
    | some q => cases q <;> simp only [ov_some, Bool.false_eq_true, if_true, if_false]
theorem we_or : EV (sOrV a b) ρ P = EV a ρ fun x ρ1 => OV (tru x.d) fun q => if q = true then P x ρ1 else EV b ρ1 P := by
  simp only [EV, sOrV]
  cases a ρ with
  | none => rfl
  | some p =>
    obtain ⟨x, ρ1⟩ := p
    simp only [ov_some]
    cases tru x.d with
    | none => rfl
    | some q => cases q <;> simp only [ov_some, Bool.false_eq_true, if_true, if_false]
theorem we_if : EV (sIf c a b) ρ P = TV c ρ fun q ρ1 => if q = true then EV a ρ1 P else EV b ρ1 P := by
  simp only [EV, sIf, TV]
  cases c ρ with
  | none => rfl
  | some p =>
    obtain ⟨q, ρ1⟩ := p
    cases q <;> simp only [ov_some, Bool.false_eq_true, if_true, if_false]
theorem we_borIx {i k : Nat} : EV (sBorIx i k) ρ P = OV (borOf ρ[i]?) fun xs => OV (xs[k]?) fun d => sc d = true ∧ P ⟨d, false, .sh⟩ ρ := by
  simp only [EV, sBorIx]
  cases borOf ρ[i]? with
  | none => rfl
  | some xs =>
    simp only [ov_some]
    cases xs[k]? with
    | none => rfl
    | some d => simp only [ov_some, ov_if]
theorem we_sl {l h : SO} : EV (sSl a l h) ρ P = EV a ρ fun x ρ1 => IV l ρ1 fun lo ρ2 => IV h ρ2 fun hi ρ3 => OV (fSl x lo hi) fun r => P r ρ3 := by
  simp only [EV, sSl, IV]
  cases a ρ with
  | none => rfl
  | some p =>
    obtain ⟨x, ρ1⟩ := p
    simp only [ov_some]
    cases l ρ1 with
    | none => rfl
    | some p =>
      obtain ⟨lo, ρ2⟩ := p
      simp only [ov_some]
      cases h ρ2 with
      | none => rfl
      | some p =>
        obtain ⟨hi, ρ3⟩ := p
        simp only [ov_some]
        cases fSl x lo hi <;> rfl
def intS (d : PyData) (P : Int → Prop) : Prop := match d with
  | .int i => P i
  | _ => False
theorem intS_int {i : Int} {P : Int → Prop} : intS (.int i) P = P i := rfl
theorem wi_none {P : Option Int → En → Prop} : IV oNone ρ P = P none ρ := rfl
theorem wi_some {P : Option Int → En → Prop} : IV (oSome a) ρ P = EV a ρ fun x ρ1 => intS x.d fun i => P (some i) ρ1 := by
  simp only [EV, oSome, IV]
  cases a ρ with
  | none => rfl
  | some p =>
    obtain ⟨⟨d, t, m⟩, ρ1⟩ := p
    simp only [ov_some]
    cases d <;> rfl
theorem we_lr1 : EV (sLR1 a) ρ P = EV a ρ fun x ρ1 => intS x.d fun j => rgOk 0 j = true ∧ P ⟨.list (rngD 0 j), false, .fr⟩ ρ1 := by
  simp only [EV, sLR1]
  cases a ρ with
  | none => rfl
  | some p =>
    obtain ⟨⟨d, t, m⟩, ρ1⟩ := p
    simp only [ov_some]
    cases d with
    | int j => simp only [ov_if, intS_int, ov_some]
    | _ => rfl
theorem we_lr2 : EV (sLR2 a b) ρ P = EV a ρ fun x ρ1 => intS x.d fun i => EV b ρ1 fun y ρ2 => intS y.d fun j => rgOk i j = true ∧ P ⟨.list (rngD i j), false, .fr⟩ ρ2 := by
  simp only [EV, sLR2]
  cases a ρ with
  | none => rfl
  | some p =>
    obtain ⟨⟨d, t, m⟩, ρ1⟩ := p
    simp only [ov_some]
    cases d with
    | int i =>
      simp only [intS_int]
      cases b ρ1 with
      | none => rfl
      | some p =>
        obtain ⟨⟨d, t, m⟩, ρ1⟩ := p
        simp only [ov_some]
        cases d with
        | int j => simp only [ov_if, intS_int, ov_some]
        | _ => rfl
    | _ => rfl
theorem we_lc {it : SA} {g : SG} {vs : List Nat} : EV (sLc it g c s vs) ρ P = AV it ρ fun ds t ρ1 => OV (lcL g c s vs t ds (wipeE ρ1 vs)) fun p => p.1.length ≤ sizeLine ∧ P ⟨.list p.1, p.2.1, .fr⟩ (restE ρ1 p.2.2 vs) := by
  simp only [EV, sLc, AV]
  cases it ρ with
  | none => rfl
  | some p =>
    obtain ⟨ds, t, ρ1⟩ := p
    simp only [ov_some]
    cases lcL g c s vs t ds (wipeE ρ1 vs) with
    | none => rfl
    | some p =>
      obtain ⟨out, tt, ρ2⟩ := p
      simp only [ov_if, ov_some]
theorem we_call {n : Nat} {F : Fn} {sq : SQ} : EV (qCall n F sq) ρ P = QV sq ρ fun ds t ρ1 => ds.length = n ∧ FV F [] ds fun r _ => OV (backQ r t) fun r' => P r' ρ1 := by
  simp only [EV, qCall, QV, FV]
  cases sq ρ with
  | none => rfl
  | some p =>
    obtain ⟨ds, t, ρ1⟩ := p
    simp only [ov_some, ov_if]
    congr 1
    cases F [] ds with
    | none => rfl
    | some p =>
      obtain ⟨r, gs⟩ := p
      simp only [ov_some]
      cases backQ r t <;> rfl
theorem we_call0 {F : Fn} : EV (qCall0 F) ρ P = FV F [] [] fun r _ => OV (backQ r none) fun r' => P r' ρ := by
  simp only [EV, qCall0, FV]
  cases F [] [] with
  | none => rfl
  | some p =>
    obtain ⟨r, gs⟩ := p
    simp only [ov_some]
    cases backQ r none <;> rfl
theorem we_callB {n i : Nat} {F : Fn} {sq : SQ} : EV (qCallB n F i sq) ρ P = ((borOf ρ[i]?).isSome = true ∧ QV sq ρ fun ds t ρ1 => ds.length = n ∧ OV (borOf ρ1[i]?) fun gs => FV F gs ds fun r gs' => OV (backQ r t) fun r' => OV (lend i gs' ρ1) fun ρ2 => P r' ρ2) := by
  simp only [EV, qCallB, QV, FV]
  cases borOf ρ[i]? with
  | none => exact propext ⟨fun h => h.elim, fun h => nomatch h.1⟩
  | some g0 =>
    simp only [Option.isSome_some, true_and]
    cases sq ρ with
    | none => rfl
    | some p =>
      obtain ⟨ds, t, ρ1⟩ := p
      simp only [ov_some, ov_if]
      congr 1
      cases borOf ρ1[i]? with
      | none => rfl
      | some gs =>
        simp only [ov_some]
        cases F gs ds with
        | none => rfl
        | some p =>
          obtain ⟨r, gs'⟩ := p
          simp only [ov_some]
          cases backQ r t with
          | none => rfl
          | some r' =>
            simp only [ov_some]
            cases lend i gs' ρ1 <;> rfl
theorem we_callR {n i : Nat} {F : Fn} {sq : SQ} : EV (qCallR n F i sq) ρ P = OV (roOf ρ[i]?) fun gs => QV sq ρ fun ds t ρ1 => ds.length = n ∧ FV F gs ds fun r _ => OV (backQ r t) fun r' => P r' ρ1 := by
  simp only [EV, qCallR, QV, FV]
  cases roOf ρ[i]? with
  | none => rfl
  | some gs =>
    simp only [ov_some]
    cases sq ρ with
    | none => rfl
    | some p =>
      obtain ⟨ds, t, ρ1⟩ := p
      simp only [ov_some, ov_if]
      congr 1
      cases F gs ds with
      | none => rfl
      | some p =>
        obtain ⟨r, gs⟩ := p
        simp only [ov_some]
        cases backQ r t <;> rfl
theorem we_callK {n : Nat} {pe : List Nat} {F : Fn} {sq : SQ} : EV (qCallK n pe F sq) ρ P = QV sq ρ fun ds t ρ1 => (ds.length = n ∧ (pe.filterMap fun i => ds[i]?).length = n) ∧ FV F [] (pe.filterMap fun i => ds[i]?) fun r _ => OV (backQ r t) fun r' => P r' ρ1 := by
  simp only [EV, qCallK, QV, FV]
  cases sq ρ with
  | none => rfl
  | some p =>
    obtain ⟨ds, t, ρ1⟩ := p
    simp only [ov_some, ov_if]
    congr 1
    cases F [] (pe.filterMap fun i => ds[i]?) with
    | none => rfl
    | some p =>
      obtain ⟨r, gs⟩ := p
      simp only [ov_some]
      cases backQ r t <;> rfl
def lstF (r : Res) (P : List PyData → Prop) : Prop := match r with
  | ⟨.list gs, _, .fr⟩ => P gs
  | _ => False
theorem lstF_fr {gs : List PyData} {t : Bool} {P : List PyData → Prop} : lstF ⟨.list gs, t, .fr⟩ P = P gs := rfl
theorem we_callT {n : Nat} {F : Fn} : EV (sCallT n F s sa) ρ P = EV s ρ fun x ρ0 => lstF x fun gs => gs.all sc = true ∧ AV sa ρ0 fun ds t ρ1 => ds.length = n ∧ FV F gs ds fun r _ => okm r.m = true ∧ P (backR r t) ρ1 := by
  simp only [EV, sCallT, AV, FV]
  cases s ρ with
  | none => rfl
  | some p =>
    obtain ⟨⟨d, tt, m⟩, ρ0⟩ := p
    simp only [ov_some]
    cases d with
    | list gs =>
      cases m with
      | fr =>
        simp only [lstF_fr, ov_if]
        congr 1
        cases sa ρ0 with
        | none => rfl
        | some p =>
          obtain ⟨ds, t, ρ1⟩ := p
          simp only [ov_some, ov_if]
          congr 1
          cases F gs ds with
          | none => rfl
          | some p =>
            obtain ⟨r, gs⟩ := p
            simp only [ov_if, ov_some]
      | _ => rfl
    | _ => rfl
end
section
variable {ρ : En} {s a b : SE} {c u : ST} {sa : SA} {sp : SP}
theorem wt_yes {P : Bool → En → Prop} : TV tYesS ρ P = P true ρ := rfl
theorem wt_tru {P : Bool → En → Prop} : TV (sTru a) ρ P = EV a ρ fun x ρ1 => OV (tru x.d) fun q => P q ρ1 := by
  simp only [EV, sTru, TV]
  cases a ρ with
  | none => rfl
  | some p =>
    obtain ⟨x, ρ1⟩ := p
    simp only [ov_some]
    cases tru x.d <;> rfl
def bolS (d : PyData) (P : Bool → Prop) : Prop := match d with
  | .bool b => P b
  | _ => False
theorem bolS_bool {i : Bool} {P : Bool → Prop} : bolS (.bool i) P = P i := rfl
theorem wt_boo {P : Bool → En → Prop} : TV (sBoo a) ρ P = EV a ρ fun x ρ1 => bolS x.d fun q => P q ρ1 := by
  simp only [EV, sBoo, TV]
  cases a ρ with
  | none => rfl
  | some p =>
    obtain ⟨⟨d, t, m⟩, ρ1⟩ := p
    simp only [ov_some]
    cases d <;> rfl
theorem wt_not {P : Bool → En → Prop} : TV (sNot c) ρ P = TV c ρ fun q ρ1 => P (!q) ρ1 := by
  simp only [TV, sNot]
  cases c ρ <;> rfl
theorem wt_and {P : Bool → En → Prop} : TV (sAnd c u) ρ P = TV c ρ fun q ρ1 => if q = true then TV u ρ1 P else P false ρ1 := by
  simp only [TV, sAnd]
  cases c ρ with
  | none => rfl
  | some p =>
    obtain ⟨q, ρ1⟩ := p
    cases q <;> simp only [ov_some, Bool.false_eq_true, if_true, if_false]
theorem wt_or {P : Bool → En → Prop} : TV (sOr c u) ρ P = TV c ρ fun q ρ1 => if q = true then P true ρ1 else TV u ρ1 P := by
  simp only [TV, sOr]
  cases c ρ with
  | none => rfl
  | some p =>
    obtain ⟨q, ρ1⟩ := p
    cases q <;> simp only [ov_some, Bool.false_eq_true, if_true, if_false]
theorem wa_nil {P : List PyData → Bool → En → Prop} : AV sANil ρ P = P [] false ρ := rfl
theorem wa_cons {P : List PyData → Bool → En → Prop} : AV (sACons s sa) ρ P = EV s ρ fun x ρ1 => okm x.m = true ∧ AV sa ρ1 fun ds t ρ2 => P (x.d :: ds) ((x.t && !sc x.d) || t) ρ2 := by
  simp only [AV, sACons, EV]
  cases s ρ with
  | none => rfl
  | some p =>
    obtain ⟨x, ρ1⟩ := p
    simp only [ov_some, ov_if]
    congr 1
    cases sa ρ1 <;> rfl
theorem wp_nil {P : List PyData → En → Prop} : PV sPNil ρ P = P [] ρ := rfl
theorem wp_cons {P : List PyData → En → Prop} : PV (sPCons s sp) ρ P = EV s ρ fun x ρ1 => nkk x.m = true ∧ PV sp ρ1 fun ds ρ2 => P (x.d :: ds) ρ2 := by
  simp only [PV, sPCons, EV]
  cases s ρ with
  | none => rfl
  | some p =>
    obtain ⟨x, ρ1⟩ := p
    simp only [ov_some, ov_if]
    congr 1
    cases sp ρ1 <;> rfl
theorem wq_P {P : List PyData → Option Bool → En → Prop} : QV (qP sp) ρ P = PV sp ρ fun ds ρ1 => P ds none ρ1 := by
  simp only [QV, qP, PV]
  cases sp ρ <;> rfl
theorem wq_S {P : List PyData → Option Bool → En → Prop} : QV (qS sa) ρ P = AV sa ρ fun ds t ρ1 => P ds (some t) ρ1 := by
  simp only [QV, qS, AV]
  cases sa ρ <;> rfl
def seqS (d : PyData) (P : List PyData → Prop) : Prop := match d with
  | .list ds => P ds
  | .tuple ds => P ds
  | _ => False
def lstS (d : PyData) (P : List PyData → Prop) : Prop := match d with
  | .list ds => P ds
  | _ => False
theorem seqS_l {ds : List PyData} {P : List PyData → Prop} : seqS (.list ds) P = P ds := rfl
theorem seqS_t {ds : List PyData} {P : List PyData → Prop} : seqS (.tuple ds) P = P ds := rfl
theorem lstS_l {ds : List PyData} {P : List PyData → Prop} : lstS (.list ds) P = P ds := rfl
theorem wa_seq {P : List PyData → Bool → En → Prop} : AV (sItS s) ρ P = EV s ρ fun x ρ1 => frm x.m = true ∧ seqS x.d fun ds => P ds x.t ρ1 := by
  simp only [AV, sItS, EV]
  cases s ρ with
  | none => rfl
  | some p =>
    obtain ⟨⟨d, t, m⟩, ρ1⟩ := p
    simp only [ov_some, ov_if]
    congr 1
    cases d <;> rfl
theorem wa_enum {P : List PyData → Bool → En → Prop} : AV (sItE s) ρ P = EV s ρ fun x ρ1 => frm x.m = true ∧ lstS x.d fun ds => P (enumD ds) x.t ρ1 := by
  simp only [AV, sItE, EV]
  cases s ρ with
  | none => rfl
  | some p =>
    obtain ⟨⟨d, t, m⟩, ρ1⟩ := p
    simp only [ov_some, ov_if]
    congr 1
    cases d <;> rfl
theorem wa_zip {P : List PyData → Bool → En → Prop} : AV (sItZ a b) ρ P = EV a ρ fun x ρ1 => frm x.m = true ∧ lstS x.d fun ds => EV b ρ1 fun y ρ2 => frm y.m = true ∧ lstS y.d fun es => P (zipD ds es) (x.t || y.t) ρ2 := by
  simp only [AV, sItZ, EV]
  cases a ρ with
  | none => rfl
  | some p =>
    obtain ⟨⟨d, t, m⟩, ρ1⟩ := p
    simp only [ov_some, ov_if]
    congr 1
    cases d with
    | list ds =>
      simp only [lstS_l]
      cases b ρ1 with
      | none => rfl
      | some p =>
        obtain ⟨⟨d, t, m⟩, ρ1⟩ := p
        simp only [ov_some, ov_if]
        congr 1
        cases d <;> rfl
    | _ => rfl
theorem wa_rng1 {P : List PyData → Bool → En → Prop} : AV (sItR1 a) ρ P = EV a ρ fun x ρ1 => intS x.d fun j => rngOk j = true ∧ P (rngD 0 j) false ρ1 := by
  simp only [AV, sItR1, EV]
  cases a ρ with
  | none => rfl
  | some p =>
    obtain ⟨⟨d, t, m⟩, ρ1⟩ := p
    simp only [ov_some]
    cases d with
    | int j => simp only [ov_if, intS_int, ov_some]
    | _ => rfl
theorem wa_rng2 {P : List PyData → Bool → En → Prop} : AV (sItR2 a b) ρ P = EV a ρ fun x ρ1 => intS x.d fun i => EV b ρ1 fun y ρ2 => intS y.d fun j => (rngOk i && rngOk j) = true ∧ P (rngD i j) false ρ2 := by
  simp only [AV, sItR2, EV]
  cases a ρ with
  | none => rfl
  | some p =>
    obtain ⟨⟨d, t, m⟩, ρ1⟩ := p
    simp only [ov_some]
    cases d with
    | int i =>
      simp only [intS_int]
      cases b ρ1 with
      | none => rfl
      | some p =>
        obtain ⟨⟨d, t, m⟩, ρ1⟩ := p
        simp only [ov_some]
        cases d with
        | int j => simp only [ov_if, intS_int, ov_some]
        | _ => rfl
    | _ => rfl
end
section
variable {ρ : En} {P : Fl → En → Prop} {s a b : SE} {c : ST} {sa : SA} {x y : SS}
theorem ws_skip : SV sSkip ρ P = P .next ρ := rfl
theorem ws_brk : SV sBrk ρ P = P .brk ρ := rfl
theorem ws_cont : SV sCont ρ P = P .cont ρ := rfl
theorem ws_never : SV sNever ρ P = False := rfl
def onNext (fl : Fl) (A B : Prop) : Prop := match fl with
  | .next => A
  | _ => B
theorem on_next {A B : Prop} : onNext .next A B = A := rfl
theorem on_ret {r : Res} {A B : Prop} : onNext (.ret r) A B = B := rfl
theorem on_brk {A B : Prop} : onNext .brk A B = B := rfl
theorem on_cont {A B : Prop} : onNext .cont A B = B := rfl
theorem ws_seq : SV (sSeq x y) ρ P = SV x ρ fun fl ρ1 => onNext fl (SV y ρ1 P) (P fl ρ1) := by
  simp only [SV, sSeq]
  cases x ρ with
  | none => rfl
  | some p =>
    obtain ⟨fl, ρ1⟩ := p
    cases fl <;> rfl
theorem ws_ret : SV (sRet a) ρ P = EV a ρ fun r ρ1 => okm r.m = true ∧ P (.ret r) ρ1 := by
  simp only [SV, sRet, EV]
  cases a ρ with
  | none => rfl
  | some p => simp only [ov_some, ov_if]
theorem ws_retN : SV sRetN ρ P = P (.ret ⟨.none, false, .sh⟩) ρ := rfl
theorem ws_drop : SV (sDrop a) ρ P = EV a ρ fun _ ρ1 => P .next ρ1 := by
  simp only [SV, sDrop, EV]
  cases a ρ <;> rfl
theorem ws_if : SV (sIfS c x y) ρ P = TV c ρ fun q ρ1 => if q = true then SV x ρ1 P else SV y ρ1 P := by
  simp only [SV, sIfS, TV]
  cases c ρ with
  | none => rfl
  | some p =>
    obtain ⟨q, ρ1⟩ := p
    cases q <;> simp only [ov_some, Bool.false_eq_true, if_true, if_false]
theorem ws_set {i : Nat} : SV (sSet i a) ρ P = EV a ρ fun r ρ1 => OV (putR i r ρ1) fun ρ2 => P .next ρ2 := by
  simp only [SV, sSet, EV]
  cases a ρ with
  | none => rfl
  | some p =>
    obtain ⟨r, ρ1⟩ := p
    simp only [ov_some]
    cases putR i r ρ1 <;> rfl
theorem ws_setB {i : Nat} : SV (sSetB i a) ρ P = EV a ρ fun r ρ1 => lstF r fun gs => (gs.all sc && (ρ1.set i .un).all nb) = true ∧ OV (ρ1[i]?) fun o => setOkG o = true ∧ P .next (ρ1.set i (.gen gs)) := by
  simp only [SV, sSetB, EV]
  cases a ρ with
  | none => rfl
  | some p =>
    obtain ⟨⟨d, t, m⟩, ρ1⟩ := p
    simp only [ov_some]
    cases d with
    | list gs =>
      cases m with
      | fr =>
        simp only [lstF_fr, ov_if]
        congr 1
        cases ρ1[i]? with
        | none => rfl
        | some o => simp only [ov_some, ov_if]
      | _ => rfl
    | _ => rfl
theorem ws_asg {g : SG} : SV (sAsgG g a) ρ P = EV a ρ fun r ρ1 => okm r.m = true ∧ GV g r.d r.t ρ1 fun ρ2 => P .next ρ2 := by
  simp only [SV, sAsgG, EV, GV]
  cases a ρ with
  | none => rfl
  | some p =>
    obtain ⟨r, ρ1⟩ := p
    simp only [ov_some, ov_if]
    congr 1
    cases g r.d r.t ρ1 <;> rfl
theorem ws_par {i j : Nat} : SV (sPar i j a b) ρ P = EV a ρ fun x ρ1 => EV b ρ1 fun y ρ2 => OV (putR i x ρ2) fun ρ3 => OV (putR j y ρ3) fun ρ4 => P .next ρ4 := by
  simp only [SV, sPar, EV]
  cases a ρ with
  | none => rfl
  | some p =>
    obtain ⟨x, ρ1⟩ := p
    simp only [ov_some]
    cases b ρ1 with
    | none => rfl
    | some p =>
      obtain ⟨y, ρ2⟩ := p
      simp only [ov_some]
      cases putR i x ρ2 with
      | none => rfl
      | some ρ3 =>
        simp only [ov_some]
        cases putR j y ρ3 <;> rfl
theorem ws_for {g : SG} : SV (sFor sa g x) ρ P = AV sa ρ fun ds t ρ1 => SV (forL g t x ds) ρ1 P := by
  simp only [SV, sFor, AV]
  cases sa ρ <;> rfl
theorem wg_n {i : Nat} {d : PyData} {t : Bool} {Q : En → Prop} : GV (gN i) d t ρ Q = OV (stS i (.val (t && !sc d) d) ρ) Q := rfl
theorem wg_t {n : Nat} {gs : SGs} {ds : List PyData} {t : Bool} {Q : En → Prop} : GV (gT n gs) (.tuple ds) t ρ Q = (ds.length = n ∧ GsV gs ds t ρ Q) := by
  simp only [GV, gT, GsV]
  simp only [ov_if]
theorem wgs_nil {t : Bool} {Q : En → Prop} : GsV gsNil [] t ρ Q = Q ρ := rfl
theorem wgs_cons {g : SG} {gs : SGs} {d : PyData} {ds : List PyData} {t : Bool} {Q : En → Prop} : GsV (gsCons g gs) (d :: ds) t ρ Q = GV g d t ρ fun ρ1 => GsV gs ds t ρ1 Q := by
  simp only [GsV, gsCons, GV]
  cases g d t ρ <;> rfl
theorem ov_st {i : Nat} {sl : Slot} {Q : En → Prop} : OV (stS i sl ρ) Q = OV (ρ[i]?) fun o => setOk o = true ∧ Q (ρ.set i sl) := by
  unfold stS
  cases ρ[i]? with
  | none => rfl
  | some o => simp only [ov_if, ov_some]
theorem ov_put_sh {i : Nat} {d : PyData} {t : Bool} {Q : En → Prop} : OV (putR i ⟨d, t, .sh⟩ ρ) Q = OV (ρ[i]?) fun o => setOk o = true ∧ Q (ρ.set i (.val (t && !sc d) d)) := by
  unfold putR
  exact ov_st
theorem ov_put_fr {i : Nat} {ds : List PyData} {t : Bool} {Q : En → Prop} : OV (putR i ⟨.list ds, t, .fr⟩ ρ) Q = OV (ρ[i]?) fun o => setOk o = true ∧ Q (ρ.set i (.own (t && !ds.all sc) ds)) := by
  unfold putR
  exact ov_st
theorem ws_app {i : Nat} : SV (sApp i a) ρ P = ((∃ t xs, ρ[i]? = some (.own t xs)) ∧ EV a ρ fun r ρ1 => okm r.m = true ∧ ∃ t xs, ρ1[i]? = some (.own t xs) ∧ xs.length < sizeLine ∧ P .next (ρ1.set i (.own (t || (r.t && !sc r.d)) (xs ++ [r.d])))) := by
  simp only [SV, sApp, EV]
  cases h : ρ[i]? with
  | none => exact propext ⟨fun q => q.elim, fun ⟨⟨t, xs, e⟩, _⟩ => nomatch e⟩
  | some sl =>
    cases sl with
    | own t xs =>
      refine propext ⟨fun q => ⟨⟨t, xs, rfl⟩, ?_⟩, fun q => ?_⟩
      · simp only at q
        cases e : a ρ with
        | none => rw [e] at q; exact q
        | some p =>
          obtain ⟨r, ρ1⟩ := p
          rw [e] at q
          simp only [ov_if] at q
          refine ⟨q.1, ?_⟩
          have q := q.2
          show ∃ t xs, ρ1[i]? = some (.own t xs) ∧ _
          cases h1 : ρ1[i]? with
          | none => rw [h1] at q; exact q.elim
          | some s1 =>
            rw [h1] at q
            cases s1 with
            | own t xs =>
              simp only [ov_if, ov_some] at q
              exact ⟨t, xs, rfl, q.1, q.2⟩
            | _ => exact q.elim
      · obtain ⟨_, q⟩ := q
        simp only
        cases e : a ρ with
        | none => rw [e] at q; exact q
        | some p =>
          obtain ⟨r, ρ1⟩ := p
          rw [e] at q
          obtain ⟨q1, t, xs, h1, q2, q3⟩ := q
          simp only at h1 q1 q2 q3
          simp only [q1, if_true, h1, q2, ov_some]
          exact q3
    | un => exact propext ⟨fun q => q.elim, fun ⟨⟨t, xs, e⟩, _⟩ => nomatch e⟩
    | val _ _ => exact propext ⟨fun q => q.elim, fun ⟨⟨t, xs, e⟩, _⟩ => nomatch e⟩
    | bor _ => exact propext ⟨fun q => q.elim, fun ⟨⟨t, xs, e⟩, _⟩ => nomatch e⟩
    | gen _ => exact propext ⟨fun q => q.elim, fun ⟨⟨t, xs, e⟩, _⟩ => nomatch e⟩
    | ro _ => exact propext ⟨fun q => q.elim, fun ⟨⟨t, xs, e⟩, _⟩ => nomatch e⟩
end
/-! ### loops -/
theorem for_inv {g : SG} {t : Bool} {body : SS} {P : Fl → En → Prop} (Inv : Nat → En → Prop) {ds : List PyData} {ρ : En} (h0 : Inv 0 ρ)
    (step : ∀ (i : Nat) (d : PyData) (ρ : En), ds[i]? = some d → Inv i ρ → GV g d t ρ fun ρ1 => SV body ρ1 fun fl ρ2 => match fl with
      | .next => Inv (i + 1) ρ2
      | .cont => Inv (i + 1) ρ2
      | .brk => P .next ρ2
      | .ret r => P (.ret r) ρ2)
    (end_ : ∀ ρ, Inv ds.length ρ → P .next ρ) : SV (forL g t body ds) ρ P := by
  have key : ∀ (es : List PyData) (k : Nat) (ρ : En), k ≤ ds.length → ds.drop k = es → Inv k ρ → SV (forL g t body es) ρ P := by
    intro es
    induction es with
    | nil =>
      intro k ρ hle e hi
      have := congrArg List.length e
      rw [List.length_drop, List.length_nil] at this
      obtain rfl : k = ds.length := Nat.le_antisymm hle (Nat.le_of_sub_eq_zero this)
      exact end_ ρ hi
    | cons d es ih =>
      intro k ρ hle e hi
      have hd : ds[k]? = some d := by
        have := congrArg (fun l => l[0]?) e
        simp only [List.getElem?_drop, Nat.add_zero, List.getElem?_cons_zero] at this
        exact this
      have hl : k + 1 ≤ ds.length := (List.getElem?_eq_some_iff.mp hd).1
      have hn : ds.drop (k + 1) = es := by
        have := congrArg List.tail e
        rw [List.tail_drop] at this
        exact this
      have st := step k d ρ hd hi
      unfold SV forL
      unfold GV at st
      cases q : g d t ρ with
      | none => rw [q] at st; exact st.elim
      | some ρ1 =>
        rw [q] at st
        simp only [ov_some, SV] at st
        simp only
        cases q2 : body ρ1 with
        | none => rw [q2] at st; exact st.elim
        | some p =>
          obtain ⟨fl, ρ2⟩ := p
          rw [q2] at st
          simp only [ov_some] at st
          cases fl with
          | next => exact ih (k + 1) ρ2 hl hn st
          | cont => exact ih (k + 1) ρ2 hl hn st
          | brk => exact st
          | ret r => exact st
  exact key ds 0 ρ (Nat.zero_le _) rfl h0
end Ev
/-! Ev: the operations at known shapes; loops. -/
namespace Ev
open PySem PySem.Spec L2

section
variable {i j : Int} {t t' : Bool} {m m' : Md} {a b : Str} {xs ys : List PyData} {d e : PyData} {P : Res → Prop} {x y : Res}
theorem fAdd_ii : fAdd ⟨.int i, t, m⟩ ⟨.int j, t', m'⟩ = sr (.int (i + j)) := rfl
theorem fAdd_ss : fAdd ⟨.str a, t, m⟩ ⟨.str b, t', m'⟩ = if a.length + b.length ≤ sizeLine then sr (.str (a ++ b)) else none := rfl
theorem fAdd_ll : fAdd ⟨.list xs, t, m⟩ ⟨.list ys, t', m'⟩ = if m ≠ .kk ∧ m' ≠ .kk ∧ xs.length + ys.length ≤ sizeLine then some ⟨.list (xs ++ ys), t || t', .fr⟩ else none := rfl
theorem fAdd_tt : fAdd ⟨.tuple xs, t, m⟩ ⟨.tuple ys, t', m'⟩ = if xs.length + ys.length ≤ sizeLine then some ⟨.tuple (xs ++ ys), t || t', .sh⟩ else none := rfl
theorem fI_ii {g : Int → Int → Int} : fI g ⟨.int i, t, m⟩ ⟨.int j, t', m'⟩ = sr (.int (g i j)) := rfl
theorem fIc_ii {c : Int → Int → Bool} {g : Int → Int → Int} : fIc c g ⟨.int i, t, m⟩ ⟨.int j, t', m'⟩ = if c i j then sr (.int (g i j)) else none := rfl
theorem fMul_ii : fMul ⟨.int i, t, m⟩ ⟨.int j, t', m'⟩ = if mulC i j then sr (.int (i * j)) else none := rfl
theorem fMul_li {k : Int} : fMul ⟨.list xs, t, m⟩ ⟨.int k, t', m'⟩ = if m ≠ .kk ∧ -(2 ^ 63) ≤ k ∧ k < 2 ^ 63 ∧ xs.length * k.toNat ≤ sizeLine then some ⟨.list (List.replicate k.toNat xs).flatten, t, .fr⟩ else none := rfl
theorem ov_fEq : OV (fEq x y) P = ((SeqAt.shaped x.d && SeqAt.shaped y.d) = true ∧ P ⟨.bool (PyData.eqv x.d y.d), false, .sh⟩) := by
  unfold fEq
  rw [ov_if]
  rfl
theorem ov_fNe : OV (fNe x y) P = ((SeqAt.shaped x.d && SeqAt.shaped y.d) = true ∧ P ⟨.bool (!PyData.eqv x.d y.d), false, .sh⟩) := by
  unfold fNe
  rw [ov_if]
  rfl
theorem fCmp_ii {p : Int → Int → Bool} : fCmp p ⟨.int i, t, m⟩ ⟨.int j, t', m'⟩ = sr (.bool (p i j)) := rfl
theorem fIn_l : fIn x ⟨.list xs, t, m⟩ = if SeqAt.shaped x.d && SeqAt.shaped (.list xs) then sr (.bool (xs.any fun z => PyData.eqv z x.d)) else none := rfl
theorem fNotIn_l : fNotIn x ⟨.list xs, t, m⟩ = if SeqAt.shaped x.d && SeqAt.shaped (.list xs) then sr (.bool (!xs.any fun z => PyData.eqv z x.d)) else none := rfl
theorem fNeg_i : fNeg ⟨.int i, t, m⟩ = sr (.int (-i)) := rfl
theorem fIx_li : fIx ⟨.list xs, t, m⟩ ⟨.int i, t', m'⟩ = match atI xs i with
    | none => none
    | some d => some ⟨d, t && !sc d, .sh⟩ := rfl
theorem fIx_ti : fIx ⟨.tuple xs, t, m⟩ ⟨.int i, t', m'⟩ = match atI xs i with
    | none => none
    | some d => some ⟨d, t && !sc d, .sh⟩ := rfl
theorem ov_fIx_li : OV (fIx ⟨.list xs, t, m⟩ ⟨.int i, t', m'⟩) P = OV (atI xs i) fun d => P ⟨d, t && !sc d, .sh⟩ := by
  rw [fIx_li]
  cases atI xs i <;> rfl
theorem ov_fIx_ti : OV (fIx ⟨.tuple xs, t, m⟩ ⟨.int i, t', m'⟩) P = OV (atI xs i) fun d => P ⟨d, t && !sc d, .sh⟩ := by
  rw [fIx_ti]
  cases atI xs i <;> rfl
theorem fSl_l {lo hi : Option Int} : fSl ⟨.list xs, t, m⟩ lo hi = some ⟨.list (cutD xs lo hi), t, .fr⟩ := rfl
theorem fSl_t {lo hi : Option Int} : fSl ⟨.tuple xs, t, m⟩ lo hi = some ⟨.tuple (cutD xs lo hi), t, .sh⟩ := rfl
theorem fLen_l : fLen ⟨.list xs, t, m⟩ = sr (.int xs.length) := rfl
theorem fLen_t : fLen ⟨.tuple xs, t, m⟩ = sr (.int xs.length) := rfl
theorem fLen_s : fLen ⟨.str a, t, m⟩ = if a.length ≤ sizeLine then sr (.int a.length) else none := rfl
theorem fSum_l {l : List Int} : fSum ⟨.list (l.map .int), t, m⟩ = sr (.int l.sum) := by
  show (match asInts (l.map .int) with | some l => sr (.int l.sum) | none => none) = _
  rw [asInts_map]
theorem fInt_i : fInt ⟨.int i, t, m⟩ = sr (.int i) := rfl
theorem fInt_b {c : Bool} : fInt ⟨.bool c, t, m⟩ = sr (.int (if c then 1 else 0)) := rfl
theorem fAbs_i : fAbs ⟨.int i, t, m⟩ = sr (.int (if i < 0 then -i else i)) := rfl
theorem fList_l : fList ⟨.list xs, t, m⟩ = some ⟨.list xs, t, .fr⟩ := rfl
theorem fList_t : fList ⟨.tuple xs, t, m⟩ = some ⟨.list xs, t, .fr⟩ := rfl
theorem fTuple_l : fTuple ⟨.list xs, t, m⟩ = some ⟨.tuple xs, t, .sh⟩ := rfl
theorem fTuple_t : fTuple ⟨.tuple xs, t, m⟩ = some ⟨.tuple xs, t, .sh⟩ := rfl
theorem fBits_i : fBits ⟨.int i, t, m⟩ = sr (.int (Builtin.Int.intBits i : Nat)) := rfl
theorem ov_fRepr : OV (fRepr x) P = ((x.d.showable && SeqAt.shaped x.d && decide (x.d.shown.length ≤ sizeLine)) = true ∧ P ⟨.str x.d.shown, false, .sh⟩) := by
  unfold fRepr
  rw [ov_if]
  rfl
theorem fIsi_d {T : String} : fIsi T x = sr (.bool (isiB T x.d)) := rfl
theorem fIsN_n : fIsN ⟨.none, t, m⟩ ⟨.none, t', m'⟩ = sr (.bool true) := rfl
theorem fSorted_l {l : List Int} : fSorted ⟨.list (l.map .int), t, m⟩ = some ⟨.list ((sortI l).map .int), false, .fr⟩ := by
  show (match asInts (l.map .int) with | some l => some (⟨.list ((sortI l).map .int), false, .fr⟩ : Res) | none => none) = _
  rw [asInts_map]
theorem isi_int {T : String} : isiB T (.int i) = (T == "int") := rfl
theorem isi_bool {T : String} {c : Bool} : isiB T (.bool c) = (T == "bool" || T == "int") := rfl
theorem isi_list {T : String} : isiB T (.list xs) = (T == "list") := rfl
theorem isi_tuple {T : String} : isiB T (.tuple xs) = (T == "tuple") := rfl
theorem isi_str {T : String} : isiB T (.str a) = (T == "str") := rfl
theorem isi_none {T : String} : isiB T .none = (T == "NoneType") := rfl
theorem ok_sh : okm .sh = true := rfl
theorem ok_fr : okm .fr = true := rfl
theorem nkk_sh : nkk .sh = true := rfl
theorem nkk_fr : nkk .fr = true := rfl
theorem nkk_pk : nkk .pk = true := rfl
theorem frm_sh : frm .sh = true := rfl
theorem frm_fr : frm .fr = true := rfl
theorem frm_kk : frm .kk = true := rfl
theorem sc_int : sc (.int i) = true := rfl
theorem sc_bool {c : Bool} : sc (.bool c) = true := rfl
theorem sc_str : sc (.str a) = true := rfl
theorem sc_none : sc .none = true := rfl
theorem sc_list : sc (.list xs) = false := rfl
theorem sc_tuple : sc (.tuple xs) = false := rfl
theorem tru_bool {c : Bool} : tru (.bool c) = some c := rfl
theorem tru_int : tru (.int i) = some (i != 0) := rfl
theorem tru_none : tru .none = some false := rfl
theorem tru_list : tru (.list xs) = some (!xs.isEmpty) := rfl
theorem tru_tuple : tru (.tuple xs) = some (!xs.isEmpty) := rfl
theorem rd_val {R : Res → Prop} : rdS (some (.val t d)) R = R ⟨d, t, .sh⟩ := rfl
theorem rd_own {R : Res → Prop} : rdS (some (.own t xs)) R = R ⟨.list xs, t, .pk⟩ := rfl
theorem rd_ro {R : Res → Prop} : rdS (some (.ro xs)) R = R ⟨.list xs, false, .kk⟩ := rfl
theorem rf_val {k : Nat} {ρ : En} {R : Res → En → Prop} : rdF k ρ (some (.val t d)) R = R ⟨d, t, .sh⟩ ρ := rfl
theorem rf_own {k : Nat} {ρ : En} {R : Res → En → Prop} : rdF k ρ (some (.own t xs)) R = R ⟨.list xs, t, .sh⟩ (ρ.set k (.val t (.list xs))) := rfl
theorem so_un : setOk .un = true := rfl
theorem so_val : setOk (.val t d) = true := rfl
theorem so_own : setOk (.own t xs) = true := rfl
theorem sg_un : setOkG .un = true := rfl
theorem sg_val : setOkG (.val t d) = true := rfl
theorem sg_own : setOkG (.own t xs) = true := rfl
theorem sg_gen : setOkG (.gen xs) = true := rfl
theorem nb_un : nb .un = true := rfl
theorem nb_val : nb (.val t d) = true := rfl
theorem nb_own : nb (.own t xs) = true := rfl
theorem nb_ro : nb (.ro xs) = true := rfl
theorem bo_bor : borOf (some (.bor xs)) = some xs := rfl
theorem bo_gen : borOf (some (.gen xs)) = some xs := rfl
theorem ro_ro : roOf (some (.ro xs)) = some xs := rfl
theorem re_bor : reB ys (.bor xs) = .bor ys := rfl
theorem re_gen : reB ys (.gen xs) = .gen ys := rfl
theorem ov_backN : OV (backQ x none) P = ((okm x.m && !x.t) = true ∧ P x) := by
  unfold backQ
  simp only [ov_if, ov_some]
theorem ov_backS : OV (backQ x (some t)) P = (okm x.m = true ∧ P ⟨x.d, x.t && t, x.m⟩) := by
  unfold backQ
  simp only [ov_if, ov_some]
  rfl
theorem ov_lend {k : Nat} {ρ : En} {R : En → Prop} : OV (lend k ys ρ) R = OV (ρ[k]?) fun s => (ρ.set k .un).all nb = true ∧ R (ρ.set k (reB ys s)) := by
  unfold lend
  cases ρ[k]? with
  | none => rfl
  | some s => simp only [ov_if, ov_some]
end
theorem isi_int_int {i : Int} : isiB "int" (.int i) = true := by
  unfold isiB
  first | rfl | decide
theorem isi_int_bool {c : Bool} : isiB "int" (.bool c) = true := by
  unfold isiB
  first | rfl | decide
theorem isi_int_str {a : Str} : isiB "int" (.str a) = false := by
  unfold isiB
  first | rfl | decide
theorem isi_int_list {xs : List PyData} : isiB "int" (.list xs) = false := by
  unfold isiB
  first | rfl | decide
theorem isi_int_tuple {xs : List PyData} : isiB "int" (.tuple xs) = false := by
  unfold isiB
  first | rfl | decide
theorem isi_int_none  : isiB "int" .none = false := by
  unfold isiB
  first | rfl | decide
theorem isi_bool_int {i : Int} : isiB "bool" (.int i) = false := by
  unfold isiB
  first | rfl | decide
theorem isi_bool_bool {c : Bool} : isiB "bool" (.bool c) = true := by
  unfold isiB
  first | rfl | decide
theorem isi_bool_str {a : Str} : isiB "bool" (.str a) = false := by
  unfold isiB
  first | rfl | decide
theorem isi_bool_list {xs : List PyData} : isiB "bool" (.list xs) = false := by
  unfold isiB
  first | rfl | decide
theorem isi_bool_tuple {xs : List PyData} : isiB "bool" (.tuple xs) = false := by
  unfold isiB
  first | rfl | decide
theorem isi_bool_none  : isiB "bool" .none = false := by
  unfold isiB
  first | rfl | decide
theorem isi_str_int {i : Int} : isiB "str" (.int i) = false := by
  unfold isiB
  first | rfl | decide
theorem isi_str_bool {c : Bool} : isiB "str" (.bool c) = false := by
  unfold isiB
  first | rfl | decide
theorem isi_str_str {a : Str} : isiB "str" (.str a) = true := by
  unfold isiB
  first | rfl | decide
theorem isi_str_list {xs : List PyData} : isiB "str" (.list xs) = false := by
  unfold isiB
  first | rfl | decide
theorem isi_str_tuple {xs : List PyData} : isiB "str" (.tuple xs) = false := by
  unfold isiB
  first | rfl | decide
theorem isi_str_none  : isiB "str" .none = false := by
  unfold isiB
  first | rfl | decide
theorem isi_list_int {i : Int} : isiB "list" (.int i) = false := by
  unfold isiB
  first | rfl | decide
theorem isi_list_bool {c : Bool} : isiB "list" (.bool c) = false := by
  unfold isiB
  first | rfl | decide
theorem isi_list_str {a : Str} : isiB "list" (.str a) = false := by
  unfold isiB
  first | rfl | decide
theorem isi_list_list {xs : List PyData} : isiB "list" (.list xs) = true := by
  unfold isiB
  first | rfl | decide
theorem isi_list_tuple {xs : List PyData} : isiB "list" (.tuple xs) = false := by
  unfold isiB
  first | rfl | decide
theorem isi_list_none  : isiB "list" .none = false := by
  unfold isiB
  first | rfl | decide
theorem isi_tuple_int {i : Int} : isiB "tuple" (.int i) = false := by
  unfold isiB
  first | rfl | decide
theorem isi_tuple_bool {c : Bool} : isiB "tuple" (.bool c) = false := by
  unfold isiB
  first | rfl | decide
theorem isi_tuple_str {a : Str} : isiB "tuple" (.str a) = false := by
  unfold isiB
  first | rfl | decide
theorem isi_tuple_list {xs : List PyData} : isiB "tuple" (.list xs) = false := by
  unfold isiB
  first | rfl | decide
theorem isi_tuple_tuple {xs : List PyData} : isiB "tuple" (.tuple xs) = true := by
  unfold isiB
  first | rfl | decide
theorem isi_tuple_none  : isiB "tuple" .none = false := by
  unfold isiB
  first | rfl | decide
def setV (r : Res) (z : Int) (i : Nat) (ρ : En) (P : En → Prop) : Option Slot → Prop
  | some (.own t xs) => OV (ixN xs.length z) fun j => P (ρ.set i (.own (t || (r.t && !sc r.d)) (xs.set j r.d)))
  | o => OV (borOf o) fun xs => OV (ixN xs.length z) fun j => sc r.d = true ∧ OV (lend i (xs.set j r.d) ρ) P
section
variable {ρ : En} {P : Fl → En → Prop} {a k : SE} {i : Nat} {r : Res} {z : Int} {xs : List PyData} {t : Bool}
theorem setV_own {R : En → Prop} : setV r z i ρ R (some (.own t xs)) = OV (ixN xs.length z) fun j => R (ρ.set i (.own (t || (r.t && !sc r.d)) (xs.set j r.d))) := rfl
theorem setV_bor {R : En → Prop} : setV r z i ρ R (some (.bor xs)) = OV (ixN xs.length z) fun j => sc r.d = true ∧ OV (lend i (xs.set j r.d) ρ) R := rfl
theorem setV_gen {R : En → Prop} : setV r z i ρ R (some (.gen xs)) = OV (ixN xs.length z) fun j => sc r.d = true ∧ OV (lend i (xs.set j r.d) ρ) R := rfl
theorem adr_own : adr (some (.own t xs)) = true := rfl
theorem adr_bor : adr (some (.bor xs)) = true := rfl
theorem adr_gen : adr (some (.gen xs)) = true := rfl
theorem ws_setIx : SV (sSetIx i a k) ρ P = EV a ρ fun r ρ1 => (okm r.m && adr ρ1[i]?) = true ∧ EV k ρ1 fun kr ρ2 => intS kr.d fun z => setV r z i ρ2 (P .next) ρ2[i]? := by
  simp only [SV, sSetIx, EV]
  cases a ρ with
  | none => rfl
  | some p =>
    obtain ⟨r, ρ1⟩ := p
    simp only [ov_some, ov_if]
    congr 1
    cases k ρ1 with
    | none => rfl
    | some p =>
      obtain ⟨⟨d, tt, m⟩, ρ2⟩ := p
      simp only [ov_some]
      cases d with
      | int z =>
        simp only [intS_int]
        cases ρ2[i]? with
        | none => rfl
        | some sl =>
          have bb : ∀ xs : List PyData, (OV (match ixN xs.length z with
              | none => none
              | some j => if sc r.d then match lend i (xs.set j r.d) ρ2 with
                | none => none
                | some ρ3 => some (.next, ρ3) else none) fun p => P p.1 p.2) = OV (ixN xs.length z) fun j => sc r.d = true ∧ OV (lend i (xs.set j r.d) ρ2) (P .next) := fun xs => by
            cases ixN xs.length z with
            | none => rfl
            | some j =>
              simp only [ov_some, ov_if]
              congr 1
              cases lend i (xs.set j r.d) ρ2 <;> rfl
          cases sl with
          | own t xs =>
            simp only [setV_own]
            cases ixN xs.length z <;> rfl
          | bor xs => exact bb xs
          | gen xs => exact bb xs
          | un => rfl
          | val _ _ => rfl
          | ro _ => rfl
      | _ => rfl
theorem ixN_lit {n : Nat} {z : Int} (h0 : 0 ≤ z) (h1 : z < n) : ixN n z = some z.toNat := by
  unfold ixN
  rw [if_pos h0, if_pos h1]
theorem atI_get {α : Type} {xs : List α} {z : Int} {x : α} (h0 : 0 ≤ z) (h : xs[z.toNat]? = some x) : atI xs z = some x := by
  have hl := (List.getElem?_eq_some_iff.mp h).1
  unfold atI
  rw [ixN_lit h0 (by omega)]
  exact h
end
/-! ### a comprehension -/
theorem lc_inv {g : SG} {cond : ST} {elt : SE} {vs : List Nat} {t : Bool} {P : List PyData × Bool × En → Prop} (Inv : Nat → List PyData → En → Prop) {ds : List PyData} {ρ : En} (h0 : Inv 0 [] ρ)
    (step : ∀ (i : Nat) (d : PyData) (acc : List PyData) (ρ : En), ds[i]? = some d → Inv i acc ρ → GV g d t ρ fun ρa => TV cond ρa fun q ρb =>
      if q = true then EV elt ρb fun x ρc => okm x.m = true ∧ (x.t && !sc x.d) = false ∧ Inv (i + 1) (acc ++ [x.d]) (wipeE ρc vs) else Inv (i + 1) acc (wipeE ρb vs))
    (end_ : ∀ out ρ', Inv ds.length out ρ' → P (out, false, ρ')) : OV (lcL g cond elt vs t ds ρ) P := by
  have key : ∀ (es : List PyData) (k : Nat) (acc : List PyData) (ρ : En), k ≤ ds.length → ds.drop k = es → Inv k acc ρ → OV (lcL g cond elt vs t es ρ) fun p => p.2.1 = false ∧ Inv ds.length (acc ++ p.1) p.2.2 := by
    intro es
    induction es with
    | nil =>
      intro k acc ρ hle e hi
      have := congrArg List.length e
      rw [List.length_drop, List.length_nil] at this
      obtain rfl : k = ds.length := Nat.le_antisymm hle (Nat.le_of_sub_eq_zero this)
      exact ⟨rfl, by rw [List.append_nil]; exact hi⟩
    | cons d es ih =>
      intro k acc ρ hle e hi
      have hd : ds[k]? = some d := by
        have := congrArg (fun l => l[0]?) e
        simp only [List.getElem?_drop, Nat.add_zero, List.getElem?_cons_zero] at this
        exact this
      have hl : k + 1 ≤ ds.length := (List.getElem?_eq_some_iff.mp hd).1
      have hn : ds.drop (k + 1) = es := by
        have := congrArg List.tail e
        rw [List.tail_drop] at this
        exact this
      have st := step k d acc ρ hd hi
      unfold GV at st
      unfold lcL
      cases q : g d t ρ with
      | none => rw [q] at st; exact st.elim
      | some ρa =>
        rw [q] at st
        simp only [ov_some, TV] at st
        simp only
        cases q2 : cond ρa with
        | none => rw [q2] at st; exact st.elim
        | some p =>
          obtain ⟨c, ρb⟩ := p
          rw [q2] at st
          simp only [ov_some] at st
          cases c with
          | false =>
            simp only [Bool.false_eq_true, if_false] at st
            exact ih (k + 1) acc _ hl hn st
          | true =>
            simp only [if_true, EV] at st
            cases q3 : elt ρb with
            | none => rw [q3] at st; exact st.elim
            | some p =>
              obtain ⟨x, ρc⟩ := p
              rw [q3] at st
              simp only [ov_some] at st
              obtain ⟨h1, h2, h3⟩ := st
              have r := ih (k + 1) _ _ hl hn h3
              simp only [q3, h1, if_true]
              cases q4 : lcL g cond elt vs t es (wipeE ρc vs) with
              | none => rw [q4] at r; exact r.elim
              | some p =>
                obtain ⟨out, tt, ρd⟩ := p
                rw [q4] at r
                obtain ⟨r1, r2⟩ := r
                have r1 : tt = false := r1
                have r2 : Inv ds.length ((acc ++ [x.d]) ++ out) ρd := r2
                rw [List.append_assoc] at r2
                simp only [ov_some]
                refine ⟨?_, r2⟩
                show ((x.t && !sc x.d) || tt) = false
                rw [h2, r1]
                rfl
  refine ov_mono (key ds 0 [] ρ (Nat.zero_le _) rfl h0) fun p h => ?_
  obtain ⟨out, tt, ρ'⟩ := p
  obtain ⟨h1, h2⟩ := h
  simp only at h1
  subst h1
  exact end_ _ _ h2
end Ev
/-! Ev: the generator that the laws draw from. -/
namespace Ev
open PySem PySem.Spec L2

/-! sizes of ints -/
theorem bits_lt {i : Int} {k : Nat} (h : i.natAbs < 2 ^ k) : Builtin.Int.intBits i ≤ k := by
  unfold Builtin.Int.intBits
  split
  · omega
  · rename_i hz
    have hn : i.natAbs ≠ 0 := by
      intro q
      have : i = 0 := Int.natAbs_eq_zero.mp q
      subst this
      simp at hz
    exact Nat.succ_le_of_lt ((Nat.log2_lt hn).mpr h)
theorem mulC_of {i j : Int} (a b : Nat) (hi : i.natAbs < 2 ^ a) (hj : j.natAbs < 2 ^ b) (h : a + b ≤ 134217728 := by decide) : mulC i j = true := by
  unfold mulC
  have h1 := bits_lt hi
  have h2 := bits_lt hj
  simp only [decide_eq_true_eq]
  omega

/-! a def's end -/
def RV (gm : GM) (P : Res → List PyData → Prop) (fl : Fl) (ρ : En) : Prop := match fl with
  | .ret r => OV (endF gm r ρ) fun p => P p.1 p.2
  | .next => OV (endF gm ⟨.none, false, .sh⟩ ρ) fun p => P p.1 p.2
  | _ => False
theorem fv_run {gm : GM} {n : Nat} {u : SS} {gs ds : List PyData} {P : Res → List PyData → Prop} (h : SV u (initE gm n gs ds) (RV gm P)) : FV (runF gm n u) gs ds P := by
  unfold FV runF
  unfold SV at h
  cases q : u (initE gm n gs ds) with
  | none => rw [q] at h; exact h.elim
  | some p =>
    obtain ⟨fl, ρ⟩ := p
    rw [q] at h
    cases fl <;> exact h
section
variable {gm : GM} {P : Res → List PyData → Prop} {Q : Res × List PyData → Prop} {r : Res} {ρ : En} {gs xs : List PyData} {d : PyData} {t : Bool}
theorem rv_ret : RV gm P (.ret r) ρ = OV (endF gm r ρ) fun p => P p.1 p.2 := rfl
theorem rv_next : RV gm P .next ρ = OV (endF gm ⟨.none, false, .sh⟩ ρ) fun p => P p.1 p.2 := rfl
theorem ov_endN : OV (endF .no r ρ) Q = (okm r.m = true ∧ Q (refR r, [])) := by
  unfold endF
  simp only [ov_if, ov_some]
theorem ov_endR : OV (endF .rd r ρ) Q = (okm r.m = true ∧ Q (refR r, [])) := by
  unfold endF
  simp only [ov_if, ov_some]
theorem ov_endB : OV (endF .bo r (.bor gs :: ρ)) Q = (okm r.m = true ∧ Q (refR r, gs)) := by
  unfold endF
  simp only [ov_if, ov_some, List.getElem?_cons_zero]
theorem refR_sh : refR ⟨d, t, .sh⟩ = ⟨d, t && !sc d, .sh⟩ := by
  unfold refR
  cases d <;> rfl
theorem refR_fr : refR ⟨.list xs, t, .fr⟩ = ⟨.list xs, t && !xs.all sc, .fr⟩ := rfl
end
theorem fv_mono {F : Fn} {gs ds : List PyData} {P Q : Res → List PyData → Prop} (h : FV F gs ds P) (i : ∀ r g, P r g → Q r g) : FV F gs ds Q := ov_mono h fun p => i p.1 p.2
theorem rngOk_of2 {j : Int} (h0 : -(2 ^ 62) ≤ j) (h1 : j < 2 ^ 62) : rngOk j = true := by
  unfold rngOk
  exact decide_eq_true ⟨h0, h1⟩
theorem rngD_len {a b : Int} : (rngD a b).length = (b - a).toNat := by
  unfold rngD
  rw [List.length_map, List.length_range]
theorem rngD_get {a b : Int} {i : Nat} {d : PyData} (h : (rngD a b)[i]? = some d) : ∃ z, d = .int z ∧ z = a + i ∧ a + i < b := by
  have hl := (List.getElem?_eq_some_iff.mp h).1
  rw [rngD_len] at hl
  unfold rngD at h
  rw [List.getElem?_map, List.getElem?_range hl] at h
  cases h
  exact ⟨_, rfl, rfl, by omega⟩
theorem ix30 : ixN (0 + 1 + 1 + 1) 0 = some 0 := rfl
theorem ix31 : ixN (0 + 1 + 1 + 1) 1 = some 1 := rfl
theorem ix32 : ixN (0 + 1 + 1 + 1) 2 = some 2 := rfl
namespace G
def uHash : SS := sSeq (sSet 2 (s2 fMod (s1 fInt (s2 fAdd (s2 fAdd (s2 fAdd (s2 fMul (sVar 0) (sLit (.int 1140671))) (s2 fMul (s2 fMul (sLit (.int 27644437)) (sVar 1)) (sVar 1))) (s2 fMul (sLit (.int 131)) (sVar 1))) (sLit (.int 19)))) (sLit (.int 2147483629))))
  (sSeq (sSet 2 (s2 fMod (s1 fInt (s2 fAdd (s2 fAdd (s2 fMul (sVar 2) (sVar 2)) (s2 fMul (sLit (.int 62089)) (sVar 1))) (sLit (.int 32416187)))) (sLit (.int 2147483587))))
  (sSeq (sRet (s2 fMod (s1 fInt (s2 fMul (sVar 2) (sLit (.int 48271)))) (sLit (.int 2147483647))))
  (sSkip)))
def fHash : Fn := runF .no 3 uHash
theorem hash_ok {s i : Int} (hs : s.natAbs < 2 ^ 40) (hi : i.natAbs < 2 ^ 60) : FV fHash [] [.int s, .int i] fun r gs => ∃ v : Int, r = ⟨.int v, false, .sh⟩ ∧ gs = [] ∧ 0 ≤ v ∧ v < 2147483647 := by
  refine fv_run ?_
  show SV uHash [.val false (.int s), .val false (.int i), .un] _
  unfold uHash
  simp only [we_lit, we_globL, we_var, we_varF, we_1, we_2, we_lst, we_tup, we_not, we_and, we_or, we_if, we_borIx, we_sl, wi_none, wi_some, we_lr1, we_lr2, we_call, we_call0, we_callB, we_callR, we_callK, we_callT, wt_yes, wt_tru, wt_boo, wt_not, wt_and, wt_or, wa_nil, wa_cons, wp_nil, wp_cons, wq_P, wq_S, wa_seq, wa_enum, wa_zip, wa_rng1, wa_rng2, ws_skip, ws_brk, ws_cont, ws_never, on_next, on_ret, on_brk, on_cont, ws_seq, ws_ret, ws_retN, ws_drop, ws_if, ws_set, ws_setB, ws_asg, ws_par, ws_for, wg_n, wg_t, wgs_nil, wgs_cons, ov_some, ov_none, ov_sr, ov_if, ov_st, ov_put_sh, ov_put_fr, intS_int, bolS_bool, seqS_l, seqS_t, lstS_l, lstF_fr, fAdd_ii, fAdd_ss, fAdd_ll, fAdd_tt, fI_ii, fIc_ii, fMul_ii, fMul_li, ov_fEq, ov_fNe, fCmp_ii, fIn_l, fNotIn_l, fNeg_i, ov_fIx_li, ov_fIx_ti, fSl_l, fSl_t, fLen_l, fLen_t, fLen_s, fInt_i, fInt_b, fAbs_i, fList_l, fList_t, fTuple_l, fTuple_t, fBits_i, ov_fRepr, fIsi_d, fIsN_n, isi_int_int, isi_int_bool, isi_int_str, isi_int_list, isi_int_tuple, isi_int_none, isi_bool_int, isi_bool_bool, isi_bool_str, isi_bool_list, isi_bool_tuple, isi_bool_none, isi_str_int, isi_str_bool, isi_str_str, isi_str_list, isi_str_tuple, isi_str_none, isi_list_int, isi_list_bool, isi_list_str, isi_list_list, isi_list_tuple, isi_list_none, isi_tuple_int, isi_tuple_bool, isi_tuple_str, isi_tuple_list, isi_tuple_tuple, isi_tuple_none, ok_sh, ok_fr, nkk_sh, nkk_fr, nkk_pk, frm_sh, frm_fr, frm_kk, sc_int, sc_bool, sc_str, sc_none, sc_list, sc_tuple, tru_bool, tru_int, tru_none, tru_list, tru_tuple, rd_val, rd_own, rd_ro, rf_val, rf_own, so_un, so_val, so_own, sg_un, sg_val, sg_own, sg_gen, nb_un, nb_val, nb_own, nb_ro, bo_bor, bo_gen, ro_ro, re_bor, re_gen, ov_backN, ov_backS, ov_lend, setV_own, setV_bor, setV_gen, adr_own, adr_bor, adr_gen, ws_setIx, ws_app, fMax2, fMin2, fSub, fFdiv, fMod, fPow, fShl, fShr, fAnd, fOr, fXor, fLt, fLe, fGt, fGe, List.getElem?_cons_zero, List.getElem?_cons_succ, List.set_cons_zero, List.set_cons_succ, List.length_cons, List.length_nil, List.all_cons, List.all_nil, List.isEmpty_cons, List.isEmpty_nil, List.filterMap_cons, List.filterMap_nil, Option.isSome_some, Bool.not_true, Bool.not_false, Bool.and_true, Bool.true_and, Bool.and_false, Bool.false_and, Bool.or_false, Bool.false_or, Bool.or_true, Bool.true_or, if_true, if_false, Bool.false_eq_true, true_and, and_true, false_and, and_false, Option.isSome_none, reduceCtorEq, decide_eq_true_eq, rv_ret, rv_next, ov_endN, ov_endR, ov_endB, refR_sh, refR_fr]
  have hm : ∀ x : Int, (x % 2147483629).natAbs < 2 ^ 31 := fun x => by omega
  have hm2 : ∀ x : Int, (x % 2147483587).natAbs < 2 ^ 31 := fun x => by omega
  have h27 : (27644437 * i).natAbs < 2 ^ 90 := by
    rw [Int.natAbs_mul]
    exact Nat.lt_of_lt_of_le (Nat.mul_lt_mul_of_le_of_lt (Nat.le_of_lt (by decide : (27644437 : Int).natAbs < 2 ^ 25)) hi (by decide)) (by decide)
  refine ⟨mulC_of 40 30 hs (by decide), mulC_of 30 60 (by decide) hi, mulC_of 90 60 h27 hi, mulC_of 30 60 (by decide) hi, by decide, mulC_of 31 31 (hm _) (hm _), mulC_of 30 60 (by decide) hi, by decide, mulC_of 31 30 (hm2 _) (by decide), by decide, _, rfl, Int.emod_nonneg _ (by decide), Int.emod_lt_of_pos _ (by decide)⟩
def uRandom : SS := sSeq (sIfS (sBoo (s2 fGt (sBorIx 0 0) (sLit (.int 0)))) (sSeq (sSet 2 (s2 fMod (s1 fInt (sBorIx 0 0)) (sVar 1)))
  (sSeq (sSetIx 0 (s2 fFdiv (sBorIx 0 0) (sVar 1)) (sLit (.int 0)))
  (sSeq (sRet (sVarF 2))
  (sSkip)))) (sSkip))
  (sSeq (sSet 2 (sLit (.int 0)))
  (sSeq (sFor (sItR1 (s2 fAdd (sLit (.int 1)) (s2 fFdiv (s1 fBits (sVar 1)) (sLit (.int 30))))) (gN 3) (sSeq (sSetIx 0 (s2 fAdd (sBorIx 0 2) (sLit (.int 1))) (sLit (.int 2)))
  (sSeq (sSet 2 (s2 fAdd (s2 fMul (sVar 2) (sLit (.int 2147483587))) (qCall 2 fHash (qP (sPCons (sBorIx 0 1) (sPCons (sBorIx 0 2) (sPNil)))))))
  (sSkip))))
  (sSeq (sRet (s2 fMod (s1 fInt (sVar 2)) (sVar 1)))
  (sSkip))))
def fRandom : Fn := runF .bo 4 uRandom
/-- a generator's state: the digits left, the seed, the count (at most m) -/
def Gen (m : Nat) (gs : List PyData) : Prop := ∃ a b c : Int, gs = [.int a, .int b, .int c] ∧ 0 ≤ a ∧ 0 ≤ b ∧ b < 2147483647 ∧ 0 ≤ c ∧ c ≤ m
theorem Gen.mono {m m' : Nat} {gs : List PyData} (h : Gen m gs) (l : m ≤ m') : Gen m' gs := by
  obtain ⟨a, b, c, e, h1, h2, h3, h4, h5⟩ := h
  exact ⟨a, b, c, e, h1, h2, h3, h4, by omega⟩
theorem random_ok {m : Nat} {gs : List PyData} {b : Int} (hg : Gen m gs) (hm : m < 2 ^ 50) (hb : 0 < b) (hb2 : b.natAbs < 2 ^ 3000) : FV fRandom gs [.int b] fun r gs' => ∃ v : Int, r = ⟨.int v, false, .sh⟩ ∧ Gen (m + 102) gs' ∧ 0 ≤ v ∧ v < b := by
  obtain ⟨x, y, c, rfl, hx, hy, hy2, hc, hc2⟩ := hg
  refine fv_run ?_
  show SV uRandom [.bor [.int x, .int y, .int c], .val false (.int b), .un, .un] _
  unfold uRandom
  simp only [we_lit, we_globL, we_var, we_varF, we_1, we_2, we_lst, we_tup, we_not, we_and, we_or, we_if, we_borIx, we_sl, wi_none, wi_some, we_lr1, we_lr2, we_call, we_call0, we_callB, we_callR, we_callK, we_callT, wt_yes, wt_tru, wt_boo, wt_not, wt_and, wt_or, wa_nil, wa_cons, wp_nil, wp_cons, wq_P, wq_S, wa_seq, wa_enum, wa_zip, wa_rng1, wa_rng2, ws_skip, ws_brk, ws_cont, ws_never, on_next, on_ret, on_brk, on_cont, ws_seq, ws_ret, ws_retN, ws_drop, ws_if, ws_set, ws_setB, ws_asg, ws_par, ws_for, wg_n, wg_t, wgs_nil, wgs_cons, ov_some, ov_none, ov_sr, ov_if, ov_st, ov_put_sh, ov_put_fr, intS_int, bolS_bool, seqS_l, seqS_t, lstS_l, lstF_fr, fAdd_ii, fAdd_ss, fAdd_ll, fAdd_tt, fI_ii, fIc_ii, fMul_ii, fMul_li, ov_fEq, ov_fNe, fCmp_ii, fIn_l, fNotIn_l, fNeg_i, ov_fIx_li, ov_fIx_ti, fSl_l, fSl_t, fLen_l, fLen_t, fLen_s, fInt_i, fInt_b, fAbs_i, fList_l, fList_t, fTuple_l, fTuple_t, fBits_i, ov_fRepr, fIsi_d, fIsN_n, isi_int_int, isi_int_bool, isi_int_str, isi_int_list, isi_int_tuple, isi_int_none, isi_bool_int, isi_bool_bool, isi_bool_str, isi_bool_list, isi_bool_tuple, isi_bool_none, isi_str_int, isi_str_bool, isi_str_str, isi_str_list, isi_str_tuple, isi_str_none, isi_list_int, isi_list_bool, isi_list_str, isi_list_list, isi_list_tuple, isi_list_none, isi_tuple_int, isi_tuple_bool, isi_tuple_str, isi_tuple_list, isi_tuple_tuple, isi_tuple_none, ok_sh, ok_fr, nkk_sh, nkk_fr, nkk_pk, frm_sh, frm_fr, frm_kk, sc_int, sc_bool, sc_str, sc_none, sc_list, sc_tuple, tru_bool, tru_int, tru_none, tru_list, tru_tuple, rd_val, rd_own, rd_ro, rf_val, rf_own, so_un, so_val, so_own, sg_un, sg_val, sg_own, sg_gen, nb_un, nb_val, nb_own, nb_ro, bo_bor, bo_gen, ro_ro, re_bor, re_gen, ov_backN, ov_backS, ov_lend, setV_own, setV_bor, setV_gen, adr_own, adr_bor, adr_gen, ws_setIx, ws_app, fMax2, fMin2, fSub, fFdiv, fMod, fPow, fShl, fShr, fAnd, fOr, fXor, fLt, fLe, fGt, fGe, List.getElem?_cons_zero, List.getElem?_cons_succ, List.set_cons_zero, List.set_cons_succ, List.length_cons, List.length_nil, List.all_cons, List.all_nil, List.isEmpty_cons, List.isEmpty_nil, List.filterMap_cons, List.filterMap_nil, Option.isSome_some, Bool.not_true, Bool.not_false, Bool.and_true, Bool.true_and, Bool.and_false, Bool.false_and, Bool.or_false, Bool.false_or, Bool.or_true, Bool.true_or, if_true, if_false, Bool.false_eq_true, true_and, and_true, false_and, and_false, Option.isSome_none, reduceCtorEq, decide_eq_true_eq, rv_ret, rv_next, ov_endN, ov_endR, ov_endB, refR_sh, refR_fr]
  have hbits : Builtin.Int.intBits b ≤ 3000 := bits_lt hb2
  have hlog : b.natAbs.log2 < 9000 := Nat.lt_of_lt_of_le ((Nat.log2_lt (by omega)).mpr hb2) (by decide)
  by_cases hx0 : 0 < x
  · rw [if_pos hx0]
    exact ⟨hb, ⟨hb, hlog⟩, _, rfl, ⟨x / b, y, c, rfl, Int.ediv_nonneg hx (Int.le_of_lt hb), hy, hy2, hc, by omega⟩, Int.emod_nonneg _ (by omega), Int.emod_lt_of_pos _ hb⟩
  rw [if_neg hx0]
  have hn : (1 + (Builtin.Int.intBits b : Int) / 30) ≤ 101 := by omega
  refine ⟨⟨by decide, by decide⟩, rngOk_of2 (by omega) (by omega), ?_⟩
  refine for_inv (fun i ρ => ∃ (c v : Int) (sl : Slot), ρ = [.bor [.int x, .int y, .int c], .val false (.int b), .val false (.int v), sl] ∧ setOk sl = true ∧ nb sl = true ∧ 0 ≤ c ∧ c ≤ (m : Int) + i ∧ 0 ≤ v ∧ v < 2 ^ (31 * i)) ⟨c, 0, .un, rfl, rfl, rfl, hc, by omega, by omega, by decide⟩ ?_ ?_
  · rintro i d ρ hd ⟨c, v, sl, rfl, ho, hnb, hc, hc2, hv, hv2⟩
    obtain ⟨z, rfl, hi⟩ := rngD_get hd
    simp only [we_lit, we_globL, we_var, we_varF, we_1, we_2, we_lst, we_tup, we_not, we_and, we_or, we_if, we_borIx, we_sl, wi_none, wi_some, we_lr1, we_lr2, we_call, we_call0, we_callB, we_callR, we_callK, we_callT, wt_yes, wt_tru, wt_boo, wt_not, wt_and, wt_or, wa_nil, wa_cons, wp_nil, wp_cons, wq_P, wq_S, wa_seq, wa_enum, wa_zip, wa_rng1, wa_rng2, ws_skip, ws_brk, ws_cont, ws_never, on_next, on_ret, on_brk, on_cont, ws_seq, ws_ret, ws_retN, ws_drop, ws_if, ws_set, ws_setB, ws_asg, ws_par, ws_for, wg_n, wg_t, wgs_nil, wgs_cons, ov_some, ov_none, ov_sr, ov_if, ov_st, ov_put_sh, ov_put_fr, intS_int, bolS_bool, seqS_l, seqS_t, lstS_l, lstF_fr, fAdd_ii, fAdd_ss, fAdd_ll, fAdd_tt, fI_ii, fIc_ii, fMul_ii, fMul_li, ov_fEq, ov_fNe, fCmp_ii, fIn_l, fNotIn_l, fNeg_i, ov_fIx_li, ov_fIx_ti, fSl_l, fSl_t, fLen_l, fLen_t, fLen_s, fInt_i, fInt_b, fAbs_i, fList_l, fList_t, fTuple_l, fTuple_t, fBits_i, ov_fRepr, fIsi_d, fIsN_n, isi_int_int, isi_int_bool, isi_int_str, isi_int_list, isi_int_tuple, isi_int_none, isi_bool_int, isi_bool_bool, isi_bool_str, isi_bool_list, isi_bool_tuple, isi_bool_none, isi_str_int, isi_str_bool, isi_str_str, isi_str_list, isi_str_tuple, isi_str_none, isi_list_int, isi_list_bool, isi_list_str, isi_list_list, isi_list_tuple, isi_list_none, isi_tuple_int, isi_tuple_bool, isi_tuple_str, isi_tuple_list, isi_tuple_tuple, isi_tuple_none, ok_sh, ok_fr, nkk_sh, nkk_fr, nkk_pk, frm_sh, frm_fr, frm_kk, sc_int, sc_bool, sc_str, sc_none, sc_list, sc_tuple, tru_bool, tru_int, tru_none, tru_list, tru_tuple, rd_val, rd_own, rd_ro, rf_val, rf_own, so_un, so_val, so_own, sg_un, sg_val, sg_own, sg_gen, nb_un, nb_val, nb_own, nb_ro, bo_bor, bo_gen, ro_ro, re_bor, re_gen, ov_backN, ov_backS, ov_lend, setV_own, setV_bor, setV_gen, adr_own, adr_bor, adr_gen, ws_setIx, ws_app, fMax2, fMin2, fSub, fFdiv, fMod, fPow, fShl, fShr, fAnd, fOr, fXor, fLt, fLe, fGt, fGe, List.getElem?_cons_zero, List.getElem?_cons_succ, List.set_cons_zero, List.set_cons_succ, List.length_cons, List.length_nil, List.all_cons, List.all_nil, List.isEmpty_cons, List.isEmpty_nil, List.filterMap_cons, List.filterMap_nil, Option.isSome_some, Bool.not_true, Bool.not_false, Bool.and_true, Bool.true_and, Bool.and_false, Bool.false_and, Bool.or_false, Bool.false_or, Bool.or_true, Bool.true_or, if_true, if_false, Bool.false_eq_true, true_and, and_true, false_and, and_false, Option.isSome_none, reduceCtorEq, decide_eq_true_eq, rv_ret, rv_next, ov_endN, ov_endR, ov_endB, refR_sh, refR_fr, ho, hnb, ix30, ix31, ix32]
    have hi2 : i ≤ 100 := by omega
    have hvn : v.natAbs < 2 ^ 3131 := by
      obtain ⟨n, rfl⟩ := Int.eq_ofNat_of_zero_le hv
      have h1 : n < 2 ^ (31 * i) := by exact_mod_cast hv2
      exact Nat.lt_of_lt_of_le h1 (Nat.pow_le_pow_right (by decide) (by omega))
    refine ⟨mulC_of 3131 32 hvn (by decide), fv_mono (hash_ok (by omega) (by omega)) ?_⟩
    rintro r g ⟨h, rfl, rfl, h0, h1⟩
    simp only [we_lit, we_globL, we_var, we_varF, we_1, we_2, we_lst, we_tup, we_not, we_and, we_or, we_if, we_borIx, we_sl, wi_none, wi_some, we_lr1, we_lr2, we_call, we_call0, we_callB, we_callR, we_callK, we_callT, wt_yes, wt_tru, wt_boo, wt_not, wt_and, wt_or, wa_nil, wa_cons, wp_nil, wp_cons, wq_P, wq_S, wa_seq, wa_enum, wa_zip, wa_rng1, wa_rng2, ws_skip, ws_brk, ws_cont, ws_never, on_next, on_ret, on_brk, on_cont, ws_seq, ws_ret, ws_retN, ws_drop, ws_if, ws_set, ws_setB, ws_asg, ws_par, ws_for, wg_n, wg_t, wgs_nil, wgs_cons, ov_some, ov_none, ov_sr, ov_if, ov_st, ov_put_sh, ov_put_fr, intS_int, bolS_bool, seqS_l, seqS_t, lstS_l, lstF_fr, fAdd_ii, fAdd_ss, fAdd_ll, fAdd_tt, fI_ii, fIc_ii, fMul_ii, fMul_li, ov_fEq, ov_fNe, fCmp_ii, fIn_l, fNotIn_l, fNeg_i, ov_fIx_li, ov_fIx_ti, fSl_l, fSl_t, fLen_l, fLen_t, fLen_s, fInt_i, fInt_b, fAbs_i, fList_l, fList_t, fTuple_l, fTuple_t, fBits_i, ov_fRepr, fIsi_d, fIsN_n, isi_int_int, isi_int_bool, isi_int_str, isi_int_list, isi_int_tuple, isi_int_none, isi_bool_int, isi_bool_bool, isi_bool_str, isi_bool_list, isi_bool_tuple, isi_bool_none, isi_str_int, isi_str_bool, isi_str_str, isi_str_list, isi_str_tuple, isi_str_none, isi_list_int, isi_list_bool, isi_list_str, isi_list_list, isi_list_tuple, isi_list_none, isi_tuple_int, isi_tuple_bool, isi_tuple_str, isi_tuple_list, isi_tuple_tuple, isi_tuple_none, ok_sh, ok_fr, nkk_sh, nkk_fr, nkk_pk, frm_sh, frm_fr, frm_kk, sc_int, sc_bool, sc_str, sc_none, sc_list, sc_tuple, tru_bool, tru_int, tru_none, tru_list, tru_tuple, rd_val, rd_own, rd_ro, rf_val, rf_own, so_un, so_val, so_own, sg_un, sg_val, sg_own, sg_gen, nb_un, nb_val, nb_own, nb_ro, bo_bor, bo_gen, ro_ro, re_bor, re_gen, ov_backN, ov_backS, ov_lend, setV_own, setV_bor, setV_gen, adr_own, adr_bor, adr_gen, ws_setIx, ws_app, fMax2, fMin2, fSub, fFdiv, fMod, fPow, fShl, fShr, fAnd, fOr, fXor, fLt, fLe, fGt, fGe, List.getElem?_cons_zero, List.getElem?_cons_succ, List.set_cons_zero, List.set_cons_succ, List.length_cons, List.length_nil, List.all_cons, List.all_nil, List.isEmpty_cons, List.isEmpty_nil, List.filterMap_cons, List.filterMap_nil, Option.isSome_some, Bool.not_true, Bool.not_false, Bool.and_true, Bool.true_and, Bool.and_false, Bool.false_and, Bool.or_false, Bool.false_or, Bool.or_true, Bool.true_or, if_true, if_false, Bool.false_eq_true, true_and, and_true, false_and, and_false, Option.isSome_none, reduceCtorEq, decide_eq_true_eq, rv_ret, rv_next, ov_endN, ov_endR, ov_endB, refR_sh, refR_fr]
    refine ⟨c + 1, v * 2147483587 + h, _, rfl, so_val, nb_val, by omega, by omega, by omega, ?_⟩
    have hp : (2 : Int) ^ (31 * (i + 1)) = 2 ^ (31 * i) * 2147483648 := by
      rw [Nat.mul_add, Int.pow_add]
      rfl
    rw [hp]
    omega
  · rintro ρ ⟨c, v, sl, rfl, ho, hnb, hc, hc2, hv, hv2⟩
    have hl : (rngD 0 (1 + (Builtin.Int.intBits b : Int) / 30)).length ≤ 101 := by rw [rngD_len]; omega
    simp only [we_lit, we_globL, we_var, we_varF, we_1, we_2, we_lst, we_tup, we_not, we_and, we_or, we_if, we_borIx, we_sl, wi_none, wi_some, we_lr1, we_lr2, we_call, we_call0, we_callB, we_callR, we_callK, we_callT, wt_yes, wt_tru, wt_boo, wt_not, wt_and, wt_or, wa_nil, wa_cons, wp_nil, wp_cons, wq_P, wq_S, wa_seq, wa_enum, wa_zip, wa_rng1, wa_rng2, ws_skip, ws_brk, ws_cont, ws_never, on_next, on_ret, on_brk, on_cont, ws_seq, ws_ret, ws_retN, ws_drop, ws_if, ws_set, ws_setB, ws_asg, ws_par, ws_for, wg_n, wg_t, wgs_nil, wgs_cons, ov_some, ov_none, ov_sr, ov_if, ov_st, ov_put_sh, ov_put_fr, intS_int, bolS_bool, seqS_l, seqS_t, lstS_l, lstF_fr, fAdd_ii, fAdd_ss, fAdd_ll, fAdd_tt, fI_ii, fIc_ii, fMul_ii, fMul_li, ov_fEq, ov_fNe, fCmp_ii, fIn_l, fNotIn_l, fNeg_i, ov_fIx_li, ov_fIx_ti, fSl_l, fSl_t, fLen_l, fLen_t, fLen_s, fInt_i, fInt_b, fAbs_i, fList_l, fList_t, fTuple_l, fTuple_t, fBits_i, ov_fRepr, fIsi_d, fIsN_n, isi_int_int, isi_int_bool, isi_int_str, isi_int_list, isi_int_tuple, isi_int_none, isi_bool_int, isi_bool_bool, isi_bool_str, isi_bool_list, isi_bool_tuple, isi_bool_none, isi_str_int, isi_str_bool, isi_str_str, isi_str_list, isi_str_tuple, isi_str_none, isi_list_int, isi_list_bool, isi_list_str, isi_list_list, isi_list_tuple, isi_list_none, isi_tuple_int, isi_tuple_bool, isi_tuple_str, isi_tuple_list, isi_tuple_tuple, isi_tuple_none, ok_sh, ok_fr, nkk_sh, nkk_fr, nkk_pk, frm_sh, frm_fr, frm_kk, sc_int, sc_bool, sc_str, sc_none, sc_list, sc_tuple, tru_bool, tru_int, tru_none, tru_list, tru_tuple, rd_val, rd_own, rd_ro, rf_val, rf_own, so_un, so_val, so_own, sg_un, sg_val, sg_own, sg_gen, nb_un, nb_val, nb_own, nb_ro, bo_bor, bo_gen, ro_ro, re_bor, re_gen, ov_backN, ov_backS, ov_lend, setV_own, setV_bor, setV_gen, adr_own, adr_bor, adr_gen, ws_setIx, ws_app, fMax2, fMin2, fSub, fFdiv, fMod, fPow, fShl, fShr, fAnd, fOr, fXor, fLt, fLe, fGt, fGe, List.getElem?_cons_zero, List.getElem?_cons_succ, List.set_cons_zero, List.set_cons_succ, List.length_cons, List.length_nil, List.all_cons, List.all_nil, List.isEmpty_cons, List.isEmpty_nil, List.filterMap_cons, List.filterMap_nil, Option.isSome_some, Bool.not_true, Bool.not_false, Bool.and_true, Bool.true_and, Bool.and_false, Bool.false_and, Bool.or_false, Bool.false_or, Bool.or_true, Bool.true_or, if_true, if_false, Bool.false_eq_true, true_and, and_true, false_and, and_false, Option.isSome_none, reduceCtorEq, decide_eq_true_eq, rv_ret, rv_next, ov_endN, ov_endR, ov_endB, refR_sh, refR_fr]
    exact ⟨hb, _, rfl, ⟨x, y, c, rfl, hx, hy, hy2, hc, by omega⟩, Int.emod_nonneg _ (by omega), Int.emod_lt_of_pos _ hb⟩
def uCell : SS := sSeq (sIfS (sBoo (s2 fLt (sVar 1) (s1 fLen (sVar 0)))) (sSeq (sRet (s2 fIx (sVar 0) (sVar 1)))
  (sSkip)) (sSkip))
  (sSeq (sRet (s2 fMod (s1 fSum (sSl (sVar 0) (oNone) (oSome (sLit (.int 1))))) (sLit (.int 1000003))))
  (sSkip))
def fCell : Fn := runF .rd 2 uCell
theorem cut_ints (ns : List Int) (lo hi : Option Int) : ∃ l : List Int, cutD (ns.map .int) lo hi = l.map .int := by
  unfold cutD
  rw [← List.map_drop, ← List.map_take]
  exact ⟨_, rfl⟩
theorem cell_ok {ns : List Int} {i : Int} (hi : 0 ≤ i) : FV fCell (ns.map .int) [.int i] fun r gs => ∃ v : Int, r = ⟨.int v, false, .sh⟩ ∧ gs = [] := by
  refine fv_run ?_
  show SV uCell [.ro (ns.map .int), .val false (.int i)] _
  unfold uCell
  obtain ⟨l, hl⟩ := cut_ints ns none (some 1)
  simp only [we_lit, we_globL, we_var, we_varF, we_1, we_2, we_lst, we_tup, we_not, we_and, we_or, we_if, we_borIx, we_sl, wi_none, wi_some, we_lr1, we_lr2, we_call, we_call0, we_callB, we_callR, we_callK, we_callT, wt_yes, wt_tru, wt_boo, wt_not, wt_and, wt_or, wa_nil, wa_cons, wp_nil, wp_cons, wq_P, wq_S, wa_seq, wa_enum, wa_zip, wa_rng1, wa_rng2, ws_skip, ws_brk, ws_cont, ws_never, on_next, on_ret, on_brk, on_cont, ws_seq, ws_ret, ws_retN, ws_drop, ws_if, ws_set, ws_setB, ws_asg, ws_par, ws_for, wg_n, wg_t, wgs_nil, wgs_cons, ov_some, ov_none, ov_sr, ov_if, ov_st, ov_put_sh, ov_put_fr, intS_int, bolS_bool, seqS_l, seqS_t, lstS_l, lstF_fr, fAdd_ii, fAdd_ss, fAdd_ll, fAdd_tt, fI_ii, fIc_ii, fMul_ii, fMul_li, ov_fEq, ov_fNe, fCmp_ii, fIn_l, fNotIn_l, fNeg_i, ov_fIx_li, ov_fIx_ti, fSl_l, fSl_t, fLen_l, fLen_t, fLen_s, fInt_i, fInt_b, fAbs_i, fList_l, fList_t, fTuple_l, fTuple_t, fBits_i, ov_fRepr, fIsi_d, fIsN_n, isi_int_int, isi_int_bool, isi_int_str, isi_int_list, isi_int_tuple, isi_int_none, isi_bool_int, isi_bool_bool, isi_bool_str, isi_bool_list, isi_bool_tuple, isi_bool_none, isi_str_int, isi_str_bool, isi_str_str, isi_str_list, isi_str_tuple, isi_str_none, isi_list_int, isi_list_bool, isi_list_str, isi_list_list, isi_list_tuple, isi_list_none, isi_tuple_int, isi_tuple_bool, isi_tuple_str, isi_tuple_list, isi_tuple_tuple, isi_tuple_none, ok_sh, ok_fr, nkk_sh, nkk_fr, nkk_pk, frm_sh, frm_fr, frm_kk, sc_int, sc_bool, sc_str, sc_none, sc_list, sc_tuple, tru_bool, tru_int, tru_none, tru_list, tru_tuple, rd_val, rd_own, rd_ro, rf_val, rf_own, so_un, so_val, so_own, sg_un, sg_val, sg_own, sg_gen, nb_un, nb_val, nb_own, nb_ro, bo_bor, bo_gen, ro_ro, re_bor, re_gen, ov_backN, ov_backS, ov_lend, setV_own, setV_bor, setV_gen, adr_own, adr_bor, adr_gen, ws_setIx, ws_app, fMax2, fMin2, fSub, fFdiv, fMod, fPow, fShl, fShr, fAnd, fOr, fXor, fLt, fLe, fGt, fGe, List.getElem?_cons_zero, List.getElem?_cons_succ, List.set_cons_zero, List.set_cons_succ, List.length_cons, List.length_nil, List.all_cons, List.all_nil, List.isEmpty_cons, List.isEmpty_nil, List.filterMap_cons, List.filterMap_nil, Option.isSome_some, Bool.not_true, Bool.not_false, Bool.and_true, Bool.true_and, Bool.and_false, Bool.false_and, Bool.or_false, Bool.false_or, Bool.or_true, Bool.true_or, if_true, if_false, Bool.false_eq_true, true_and, and_true, false_and, and_false, Option.isSome_none, reduceCtorEq, decide_eq_true_eq, rv_ret, rv_next, ov_endN, ov_endR, ov_endB, refR_sh, refR_fr, hl, fSum_l, List.length_map]
  split
  · rename_i h
    have h2 : i.toNat < ns.length := by omega
    rw [atI_get (x := .int ns[i.toNat]) hi (by rw [List.getElem?_map, List.getElem?_eq_getElem h2]; rfl)]
    simp only [we_lit, we_globL, we_var, we_varF, we_1, we_2, we_lst, we_tup, we_not, we_and, we_or, we_if, we_borIx, we_sl, wi_none, wi_some, we_lr1, we_lr2, we_call, we_call0, we_callB, we_callR, we_callK, we_callT, wt_yes, wt_tru, wt_boo, wt_not, wt_and, wt_or, wa_nil, wa_cons, wp_nil, wp_cons, wq_P, wq_S, wa_seq, wa_enum, wa_zip, wa_rng1, wa_rng2, ws_skip, ws_brk, ws_cont, ws_never, on_next, on_ret, on_brk, on_cont, ws_seq, ws_ret, ws_retN, ws_drop, ws_if, ws_set, ws_setB, ws_asg, ws_par, ws_for, wg_n, wg_t, wgs_nil, wgs_cons, ov_some, ov_none, ov_sr, ov_if, ov_st, ov_put_sh, ov_put_fr, intS_int, bolS_bool, seqS_l, seqS_t, lstS_l, lstF_fr, fAdd_ii, fAdd_ss, fAdd_ll, fAdd_tt, fI_ii, fIc_ii, fMul_ii, fMul_li, ov_fEq, ov_fNe, fCmp_ii, fIn_l, fNotIn_l, fNeg_i, ov_fIx_li, ov_fIx_ti, fSl_l, fSl_t, fLen_l, fLen_t, fLen_s, fInt_i, fInt_b, fAbs_i, fList_l, fList_t, fTuple_l, fTuple_t, fBits_i, ov_fRepr, fIsi_d, fIsN_n, isi_int_int, isi_int_bool, isi_int_str, isi_int_list, isi_int_tuple, isi_int_none, isi_bool_int, isi_bool_bool, isi_bool_str, isi_bool_list, isi_bool_tuple, isi_bool_none, isi_str_int, isi_str_bool, isi_str_str, isi_str_list, isi_str_tuple, isi_str_none, isi_list_int, isi_list_bool, isi_list_str, isi_list_list, isi_list_tuple, isi_list_none, isi_tuple_int, isi_tuple_bool, isi_tuple_str, isi_tuple_list, isi_tuple_tuple, isi_tuple_none, ok_sh, ok_fr, nkk_sh, nkk_fr, nkk_pk, frm_sh, frm_fr, frm_kk, sc_int, sc_bool, sc_str, sc_none, sc_list, sc_tuple, tru_bool, tru_int, tru_none, tru_list, tru_tuple, rd_val, rd_own, rd_ro, rf_val, rf_own, so_un, so_val, so_own, sg_un, sg_val, sg_own, sg_gen, nb_un, nb_val, nb_own, nb_ro, bo_bor, bo_gen, ro_ro, re_bor, re_gen, ov_backN, ov_backS, ov_lend, setV_own, setV_bor, setV_gen, adr_own, adr_bor, adr_gen, ws_setIx, ws_app, fMax2, fMin2, fSub, fFdiv, fMod, fPow, fShl, fShr, fAnd, fOr, fXor, fLt, fLe, fGt, fGe, List.getElem?_cons_zero, List.getElem?_cons_succ, List.set_cons_zero, List.set_cons_succ, List.length_cons, List.length_nil, List.all_cons, List.all_nil, List.isEmpty_cons, List.isEmpty_nil, List.filterMap_cons, List.filterMap_nil, Option.isSome_some, Bool.not_true, Bool.not_false, Bool.and_true, Bool.true_and, Bool.and_false, Bool.false_and, Bool.or_false, Bool.false_or, Bool.or_true, Bool.true_or, if_true, if_false, Bool.false_eq_true, true_and, and_true, false_and, and_false, Option.isSome_none, reduceCtorEq, decide_eq_true_eq, rv_ret, rv_next, ov_endN, ov_endR, ov_endB, refR_sh, refR_fr]
    exact ⟨_, rfl⟩
  · exact ⟨by decide, _, rfl⟩
def uGenerator : SS := sSeq (sSet 2 (qCallR 1 fCell 0 (qP (sPCons (sVar 1) (sPNil)))))
  (sSeq (sRet (sLst (sACons (s2 fMod (s1 fInt (s2 fMax2 (s2 fSub (sVar 2) (s2 fPow (sLit (.int 10)) (sLit (.int 18)))) (sLit (.int 0)))) (s2 fPow (s2 fPow (sLit (.int 10)) (sLit (.int 60))) (sLit (.int 10)))) (sACons (s2 fMod (s1 fInt (sVar 2)) (sLit (.int 2147483647))) (sACons (s2 fMul (sLit (.int 1000)) (sVar 1)) (sANil))))))
  (sSkip))
def fGenerator : Fn := runF .rd 3 uGenerator
theorem generator_ok {ns : List Int} {i : Nat} (hi : i < 1000) : FV fGenerator (ns.map .int) [.int i] fun r gs => ∃ xs, r = ⟨.list xs, false, .fr⟩ ∧ gs = [] ∧ Gen (1000 * i) xs := by
  refine fv_run ?_
  show SV uGenerator [.ro (ns.map .int), .val false (.int i), .un] _
  unfold uGenerator
  simp only [we_lit, we_globL, we_var, we_varF, we_1, we_2, we_lst, we_tup, we_not, we_and, we_or, we_if, we_borIx, we_sl, wi_none, wi_some, we_lr1, we_lr2, we_call, we_call0, we_callB, we_callR, we_callK, we_callT, wt_yes, wt_tru, wt_boo, wt_not, wt_and, wt_or, wa_nil, wa_cons, wp_nil, wp_cons, wq_P, wq_S, wa_seq, wa_enum, wa_zip, wa_rng1, wa_rng2, ws_skip, ws_brk, ws_cont, ws_never, on_next, on_ret, on_brk, on_cont, ws_seq, ws_ret, ws_retN, ws_drop, ws_if, ws_set, ws_setB, ws_asg, ws_par, ws_for, wg_n, wg_t, wgs_nil, wgs_cons, ov_some, ov_none, ov_sr, ov_if, ov_st, ov_put_sh, ov_put_fr, intS_int, bolS_bool, seqS_l, seqS_t, lstS_l, lstF_fr, fAdd_ii, fAdd_ss, fAdd_ll, fAdd_tt, fI_ii, fIc_ii, fMul_ii, fMul_li, ov_fEq, ov_fNe, fCmp_ii, fIn_l, fNotIn_l, fNeg_i, ov_fIx_li, ov_fIx_ti, fSl_l, fSl_t, fLen_l, fLen_t, fLen_s, fInt_i, fInt_b, fAbs_i, fList_l, fList_t, fTuple_l, fTuple_t, fBits_i, ov_fRepr, fIsi_d, fIsN_n, isi_int_int, isi_int_bool, isi_int_str, isi_int_list, isi_int_tuple, isi_int_none, isi_bool_int, isi_bool_bool, isi_bool_str, isi_bool_list, isi_bool_tuple, isi_bool_none, isi_str_int, isi_str_bool, isi_str_str, isi_str_list, isi_str_tuple, isi_str_none, isi_list_int, isi_list_bool, isi_list_str, isi_list_list, isi_list_tuple, isi_list_none, isi_tuple_int, isi_tuple_bool, isi_tuple_str, isi_tuple_list, isi_tuple_tuple, isi_tuple_none, ok_sh, ok_fr, nkk_sh, nkk_fr, nkk_pk, frm_sh, frm_fr, frm_kk, sc_int, sc_bool, sc_str, sc_none, sc_list, sc_tuple, tru_bool, tru_int, tru_none, tru_list, tru_tuple, rd_val, rd_own, rd_ro, rf_val, rf_own, so_un, so_val, so_own, sg_un, sg_val, sg_own, sg_gen, nb_un, nb_val, nb_own, nb_ro, bo_bor, bo_gen, ro_ro, re_bor, re_gen, ov_backN, ov_backS, ov_lend, setV_own, setV_bor, setV_gen, adr_own, adr_bor, adr_gen, ws_setIx, ws_app, fMax2, fMin2, fSub, fFdiv, fMod, fPow, fShl, fShr, fAnd, fOr, fXor, fLt, fLe, fGt, fGe, List.getElem?_cons_zero, List.getElem?_cons_succ, List.set_cons_zero, List.set_cons_succ, List.length_cons, List.length_nil, List.all_cons, List.all_nil, List.isEmpty_cons, List.isEmpty_nil, List.filterMap_cons, List.filterMap_nil, Option.isSome_some, Bool.not_true, Bool.not_false, Bool.and_true, Bool.true_and, Bool.and_false, Bool.false_and, Bool.or_false, Bool.false_or, Bool.or_true, Bool.true_or, if_true, if_false, Bool.false_eq_true, true_and, and_true, false_and, and_false, Option.isSome_none, reduceCtorEq, decide_eq_true_eq, rv_ret, rv_next, ov_endN, ov_endR, ov_endB, refR_sh, refR_fr]
  refine fv_mono (cell_ok (by omega)) ?_
  rintro r g ⟨v, rfl, rfl⟩
  simp only [we_lit, we_globL, we_var, we_varF, we_1, we_2, we_lst, we_tup, we_not, we_and, we_or, we_if, we_borIx, we_sl, wi_none, wi_some, we_lr1, we_lr2, we_call, we_call0, we_callB, we_callR, we_callK, we_callT, wt_yes, wt_tru, wt_boo, wt_not, wt_and, wt_or, wa_nil, wa_cons, wp_nil, wp_cons, wq_P, wq_S, wa_seq, wa_enum, wa_zip, wa_rng1, wa_rng2, ws_skip, ws_brk, ws_cont, ws_never, on_next, on_ret, on_brk, on_cont, ws_seq, ws_ret, ws_retN, ws_drop, ws_if, ws_set, ws_setB, ws_asg, ws_par, ws_for, wg_n, wg_t, wgs_nil, wgs_cons, ov_some, ov_none, ov_sr, ov_if, ov_st, ov_put_sh, ov_put_fr, intS_int, bolS_bool, seqS_l, seqS_t, lstS_l, lstF_fr, fAdd_ii, fAdd_ss, fAdd_ll, fAdd_tt, fI_ii, fIc_ii, fMul_ii, fMul_li, ov_fEq, ov_fNe, fCmp_ii, fIn_l, fNotIn_l, fNeg_i, ov_fIx_li, ov_fIx_ti, fSl_l, fSl_t, fLen_l, fLen_t, fLen_s, fInt_i, fInt_b, fAbs_i, fList_l, fList_t, fTuple_l, fTuple_t, fBits_i, ov_fRepr, fIsi_d, fIsN_n, isi_int_int, isi_int_bool, isi_int_str, isi_int_list, isi_int_tuple, isi_int_none, isi_bool_int, isi_bool_bool, isi_bool_str, isi_bool_list, isi_bool_tuple, isi_bool_none, isi_str_int, isi_str_bool, isi_str_str, isi_str_list, isi_str_tuple, isi_str_none, isi_list_int, isi_list_bool, isi_list_str, isi_list_list, isi_list_tuple, isi_list_none, isi_tuple_int, isi_tuple_bool, isi_tuple_str, isi_tuple_list, isi_tuple_tuple, isi_tuple_none, ok_sh, ok_fr, nkk_sh, nkk_fr, nkk_pk, frm_sh, frm_fr, frm_kk, sc_int, sc_bool, sc_str, sc_none, sc_list, sc_tuple, tru_bool, tru_int, tru_none, tru_list, tru_tuple, rd_val, rd_own, rd_ro, rf_val, rf_own, so_un, so_val, so_own, sg_un, sg_val, sg_own, sg_gen, nb_un, nb_val, nb_own, nb_ro, bo_bor, bo_gen, ro_ro, re_bor, re_gen, ov_backN, ov_backS, ov_lend, setV_own, setV_bor, setV_gen, adr_own, adr_bor, adr_gen, ws_setIx, ws_app, fMax2, fMin2, fSub, fFdiv, fMod, fPow, fShl, fShr, fAnd, fOr, fXor, fLt, fLe, fGt, fGe, List.getElem?_cons_zero, List.getElem?_cons_succ, List.set_cons_zero, List.set_cons_succ, List.length_cons, List.length_nil, List.all_cons, List.all_nil, List.isEmpty_cons, List.isEmpty_nil, List.filterMap_cons, List.filterMap_nil, Option.isSome_some, Bool.not_true, Bool.not_false, Bool.and_true, Bool.true_and, Bool.and_false, Bool.false_and, Bool.or_false, Bool.false_or, Bool.or_true, Bool.true_or, if_true, if_false, Bool.false_eq_true, true_and, and_true, false_and, and_false, Option.isSome_none, reduceCtorEq, decide_eq_true_eq, rv_ret, rv_next, ov_endN, ov_endR, ov_endB, refR_sh, refR_fr]
  have hp : (0 : Int) < (10 ^ Int.toNat 60) ^ Int.toNat 10 := Int.pow_pos (Int.pow_pos (by decide))
  refine ⟨by decide +kernel, by decide +kernel, by decide +kernel, hp, by decide, mulC_of 10 10 (by decide) (by omega), by decide, _, rfl, _, _, _, rfl, Int.emod_nonneg _ (by omega), Int.emod_nonneg _ (by decide), Int.emod_lt_of_pos _ (by decide), by omega, by omega⟩
end G
end Ev
/-! Ev: data that may be compared and shown. -/
namespace Ev
open PySem PySem.Spec L2

theorem strOk_app {a b : Str} (ha : PyData.strOk a = true) (hb : PyData.strOk b = true) : PyData.strOk (a ++ b) = true := by
  unfold PyData.strOk at *
  show (a.cps ++ b.cps).all (· < 0x110000) = true
  rw [Array.all_append, ha, hb]
  rfl
theorem strOk_of (s : String) : PyData.strOk (Str.ofString s) = true := by
  unfold PyData.strOk
  rw [Str.ofString_eq_toList]
  simp only [List.all_toArray, List.all_map, List.all_eq_true]
  intro c _
  have : c.toNat < 0x110000 := by
    have := c.valid
    have h : c.val.toNat < 0xD800 ∨ (0xDFFF < c.val.toNat ∧ c.val.toNat < 0x110000) := this
    show c.val.toNat < 0x110000
    omega
  simpa using this
theorem strOk_join {sep : Str} (hs : PyData.strOk sep = true) : ∀ ts : List Str, (∀ t ∈ ts, PyData.strOk t = true) → PyData.strOk (Str.join sep ts) = true
  | [], _ => by
    show PyData.strOk Str.empty = true
    unfold PyData.strOk Str.empty
    simp
  | [x], h => h x List.mem_cons_self
  | x :: y :: r, h => by
    show PyData.strOk (x ++ sep ++ Str.join sep (y :: r)) = true
    exact strOk_app (strOk_app (h x List.mem_cons_self) hs) (strOk_join hs (y :: r) fun t ht => h t (List.mem_cons_of_mem _ ht))
mutual
/-- ints of at most 200 bits, truth values, None; lists and tuples of them -/
def plainD : PyData → Bool
  | .none | .bool _ => true
  | .int i => decide (i.natAbs < 2 ^ 200)
  | .list xs => plainAll xs
  | .tuple xs => plainAll xs
  | .str _ | .dict _ => false
def plainAll : List PyData → Bool
  | [] => true
  | x :: xs => plainD x && plainAll xs
end
theorem strOk_list {ts : List Str} (h : ∀ t ∈ ts, PyData.strOk t = true) : PyData.strOk (("[" : Str) ++ Str.join ", " ts ++ "]") = true :=
  strOk_app (strOk_app (strOk_of _) (strOk_join (strOk_of _) ts h)) (strOk_of _)
mutual
theorem plain_facts : ∀ d : PyData, plainD d = true → d.showable = true ∧ d.canLay0 = true ∧ d.leavesShort 70 = true ∧ PyData.strOk d.shown = true
  | .none, _ => ⟨rfl, rfl, rfl, by rw [PyData.shown_none]; exact strOk_of _⟩
  | .bool b, _ => ⟨rfl, rfl, rfl, by rw [PyData.shown_bool]; cases b <;> exact strOk_of _⟩
  | .int i, h => by
    have h : i.natAbs < 2 ^ 200 := of_decide_eq_true h
    have h10 : i.natAbs < 10 ^ 61 := Nat.lt_trans h (by decide)
    refine ⟨?_, rfl, ?_, by rw [PyData.shown_int]; exact strOk_of _⟩
    · show decide (i.natAbs.log2 < 1920) = true
      refine decide_eq_true ?_
      by_cases hz : i.natAbs = 0
      · rw [hz]; decide
      · exact Nat.lt_trans ((Nat.log2_lt hz).mpr h) (by decide)
    · show decide ((PyData.shown (.int i)).length ≤ 70) = true
      refine decide_eq_true ?_
      have e := int_text_length_le10 (k := 61) (by decide) h10
      rw [PyData.shown_int]
      have : (Str.ofString (toString i)).length ≤ 70 := by
        rw [ofString_length]
        omega
      exact this
  | .list xs, h => by
    obtain ⟨h1, h2, h3, h4⟩ := plainAll_facts xs h
    exact ⟨h1, h2, h3, by rw [PyData.shown_list]; exact strOk_list h4⟩
  | .tuple xs, h => by
    obtain ⟨h1, h2, h3, h4⟩ := plainAll_facts xs h
    refine ⟨h1, h2, h3, ?_⟩
    rw [PyData.shown_tuple]
    exact strOk_app (strOk_app (strOk_of _) (strOk_join (strOk_of _) _ h4)) (strOk_of _)
  | .str _, h => nomatch h
  | .dict _, h => nomatch h
theorem plainAll_facts : ∀ xs : List PyData, plainAll xs = true → PyData.showableAll xs = true ∧ PyData.canLayAll0 xs = true ∧ PyData.leavesShortAll 70 xs = true ∧ ∀ t ∈ PyData.shownAll xs, PyData.strOk t = true
  | [], _ => ⟨rfl, rfl, rfl, fun t h => by rw [PyData.shownAll_nil] at h; cases h⟩
  | x :: xs, h => by
    have h' : plainD x = true ∧ plainAll xs = true := by simpa only [plainAll, Bool.and_eq_true] using h
    obtain ⟨a1, a2, a3, a4⟩ := plain_facts x h'.1
    obtain ⟨b1, b2, b3, b4⟩ := plainAll_facts xs h'.2
    refine ⟨by simp only [PyData.showableAll, a1, b1, Bool.and_self], by simp only [PyData.canLayAll0, a2, b2, Bool.and_self], by simp only [PyData.leavesShortAll, a3, b3, Bool.and_self], fun t ht => ?_⟩
    rw [PyData.shownAll_cons] at ht
    rcases List.mem_cons.mp ht with rfl | ht
    · exact a4
    · exact b4 t ht
end
/-- data within bounds -/
def fine (d : PyData) : Prop := plainD d = true ∧ d.depth ≤ 64 ∧ d.weight ≤ 200000
theorem fine.shaped {d : PyData} (h : fine d) : SeqAt.shaped d = true := by
  unfold SeqAt.shaped
  rw [(plain_facts d h.1).2.1, decide_eq_true h.2.1]
  rfl
theorem fine.shown {d : PyData} (h : fine d) : (d.showable && SeqAt.shaped d && decide (d.shown.length ≤ sizeLine)) = true := by
  have := PyData.shown_le 70 (by decide) d (plain_facts d h.1).2.2.1
  have h2 : (70 + 2) * d.weight ≤ 72 * 200000 := Nat.mul_le_mul (Nat.le_refl _) h.2.2
  rw [h.shaped, (plain_facts d h.1).1, decide_eq_true (by rw [sizeLine_eq]; omega)]
  rfl
theorem fine.showable {d : PyData} (h : fine d) : d.showable = true := (plain_facts d h.1).1
theorem fine.le {d : PyData} (h : fine d) : d.shown.length ≤ sizeLine := by
  have := PyData.shown_le 70 (by decide) d (plain_facts d h.1).2.2.1
  have h2 : (70 + 2) * d.weight ≤ 72 * 200000 := Nat.mul_le_mul (Nat.le_refl _) h.2.2
  rw [sizeLine_eq]
  omega
theorem two_le {a b : Nat} (h : a ≤ b) : (2 : Int) ^ a ≤ 2 ^ b := by exact_mod_cast Nat.pow_le_pow_right (by decide) h
theorem fine.shaped_shown {d : PyData} (h : fine d) : SeqAt.shaped (.str d.shown) = true := by
  unfold SeqAt.shaped
  show (PyData.strOk d.shown && decide (0 ≤ 64)) = true
  rw [(plain_facts d h.1).2.2.2]
  rfl
theorem plain_ints : ∀ {xs : List Int}, (∀ x ∈ xs, x.natAbs < 2 ^ 200) → plainAll (xs.map .int) = true
  | [], _ => rfl
  | x :: xs, h => by
    show (decide (x.natAbs < 2 ^ 200) && plainAll (xs.map .int)) = true
    rw [decide_eq_true (h x List.mem_cons_self), plain_ints fun y hy => h y (List.mem_cons_of_mem _ hy)]
    rfl
theorem depth_ints : ∀ xs : List Int, PyData.depthAll (xs.map .int) = 0
  | [] => rfl
  | x :: xs => by
    show max 0 (PyData.depthAll (xs.map .int)) = 0
    rw [depth_ints xs]
    rfl
theorem weight_int {x : Int} (h : x.natAbs < 2 ^ 200) : (PyData.int x).weight ≤ 200 := by
  show (if x == 0 then 0 else x.natAbs.log2 + 1) ≤ 200
  split
  · omega
  · rename_i hz
    have hn : x.natAbs ≠ 0 := by
      intro q
      have : x = 0 := Int.natAbs_eq_zero.mp q
      subst this
      simp at hz
    have := (Nat.log2_lt hn).mpr h
    omega
theorem weight_ints : ∀ {xs : List Int}, (∀ x ∈ xs, x.natAbs < 2 ^ 200) → PyData.weightAll (xs.map .int) ≤ 201 * xs.length
  | [], _ => Nat.le_refl _
  | x :: xs, h => by
    have h1 := weight_int (h x List.mem_cons_self)
    have h2 := weight_ints fun y hy => h y (List.mem_cons_of_mem _ hy)
    show (PyData.int x).weight + 1 + PyData.weightAll (xs.map .int) ≤ 201 * (xs.length + 1)
    omega
theorem fine_int {x : Int} (h : x.natAbs < 2 ^ 200) : fine (.int x) := ⟨decide_eq_true h, Nat.zero_le _, Nat.le_trans (weight_int h) (by decide)⟩
theorem fine_bool {b : Bool} : fine (.bool b) := ⟨rfl, Nat.zero_le _, Nat.zero_le _⟩
theorem fine_ints {xs : List Int} (h : ∀ x ∈ xs, x.natAbs < 2 ^ 200) (hl : xs.length ≤ 900) : fine (.list (xs.map .int)) := by
  refine ⟨plain_ints h, ?_, ?_⟩
  · show PyData.depthAll (xs.map .int) + 1 ≤ 64
    rw [depth_ints]
    decide
  · have := weight_ints h
    show PyData.weightAll (xs.map .int) ≤ 200000
    omega
theorem eqv_int {x y : Int} : PyData.eqv (.int x) (.int y) = decide (x = y) := by
  show (x == y) = _
  rw [Bool.eq_iff_iff]
  simp
theorem eqv_ints : ∀ {xs ys : List Int}, PyData.eqvAll (xs.map .int) (ys.map .int) = decide (xs = ys)
  | [], [] => rfl
  | [], _ :: _ => rfl
  | _ :: _, [] => rfl
  | x :: xs, y :: ys => by
    show (PyData.eqv (.int x) (.int y) && PyData.eqvAll (xs.map .int) (ys.map .int)) = _
    rw [eqv_int, eqv_ints (xs := xs) (ys := ys), Bool.eq_iff_iff]
    simp
theorem eqv_list {xs ys : List Int} : PyData.eqv (.list (xs.map .int)) (.list (ys.map .int)) = decide (xs = ys) := eqv_ints
theorem eqv_str {x y : Str} : PyData.eqv (.str x) (.str y) = (x == y) := rfl
theorem eqv_str_self {x : Str} : PyData.eqv (.str x) (.str x) = true := by
  show (x == x) = true
  exact beq_self_eq_true x
theorem sv_mono {s : SS} {ρ : En} {P Q : Fl → En → Prop} (h : SV s ρ P) (i : ∀ fl ρ, P fl ρ → Q fl ρ) : SV s ρ Q := ov_mono h fun p => i p.1 p.2
theorem rngD_map {a b : Int} : rngD a b = ((List.range (b - a).toNat).map fun (i : Nat) => a + (i : Int)).map .int := by
  unfold rngD
  rw [List.map_map]
  rfl
theorem two_pos {n : Nat} : (0 : Int) < 2 ^ n := Int.pow_pos (by decide)
theorem two_abs {n k : Nat} (h : n < k) : ((2 : Int) ^ n).natAbs < 2 ^ k := by
  rw [Int.natAbs_pow]
  exact Nat.pow_lt_pow_right (by decide) h
theorem map_get {xs : List Int} {i : Nat} {d : PyData} (h : (xs.map PyData.int)[i]? = some d) : ∃ z, xs[i]? = some z ∧ d = .int z := by
  rw [List.getElem?_map] at h
  cases q : xs[i]? with
  | none => rw [q] at h; cases h
  | some z =>
    rw [q] at h
    cases h
    exact ⟨z, rfl, rfl⟩
theorem enumD_len {ds : List PyData} : (enumD ds).length = ds.length := by
  unfold enumD
  rw [List.length_map, List.length_zipIdx]
theorem enumD_get {ds : List PyData} {i : Nat} {d : PyData} (h : (enumD ds)[i]? = some d) : ∃ e, ds[i]? = some e ∧ d = .tuple [.int (i : Int), e] := by
  unfold enumD at h
  rw [List.getElem?_map, List.getElem?_zipIdx] at h
  cases q : ds[i]? with
  | none => rw [q] at h; cases h
  | some z =>
    rw [q] at h
    cases h
    exact ⟨z, rfl, by rw [Nat.zero_add]⟩
end Ev
namespace Toy
open PySem PySem.Spec L2 Ev
theorem U64 {k : Nat} {A : Around} (hr : Room k A) : A.units + 64 < cLine := by have := hr.un; omega
theorem U65 {k : Nat} {A : Around} (hr : Room k A) : A.units + 65 < cLine := by have := hr.un; omega
theorem U70 {k : Nat} {A : Around} (hr : Room k A) : A.units + 70 < cLine := by have := hr.un; omega
def top (i : Nat) : Stmt := PySem.Challenge.pw_howeverwide_k03_whole_bits.main.body.getD i (.Pass ⟨0, 0, 0, 0⟩)
abbrev st_bit_of : Stmt := top 14
abbrev N_bit_of : List Str := ["word", "place"]
def u_bit_of : SS := sSeq (sRet (s2 fAnd (s2 fShr (sVar 0) (sVar 1)) (sLit (.int 1))))
  (sSkip)
def F_bit_of : Fn := runF .no 2 u_bit_of
theorem sc_bit_of : FnScope N_bit_of ["word", "place"] (defScope st_bit_of) := ⟨rfl, rfl, rfl, by decide +kernel, rfl, by decide +kernel, by decide +kernel⟩
abbrev st_is_whole : Stmt := top 7
abbrev N_is_whole : List Str := ["value"]
def u_is_whole : SS := sSeq (sRet (sAndV (s1 (fIsi "int") (sVar 0)) (sNotV (s1 (fIsi "bool") (sVar 0)))))
  (sSkip)
def F_is_whole : Fn := runF .no 1 u_is_whole
theorem sc_is_whole : FnScope N_is_whole ["value"] (defScope st_is_whole) := ⟨rfl, rfl, rfl, by decide +kernel, rfl, by decide +kernel, by decide +kernel⟩
abbrev st_is_count : Stmt := top 8
abbrev N_is_count : List Str := ["value"]
def u_is_count : SS := sSeq (sRet (sAndV (qCall 1 F_is_whole (qP (sPCons (sVar 0) (sPNil)))) (s2 fGe (sVar 0) (sLit (.int 0)))))
  (sSkip)
def F_is_count : Fn := runF .no 1 u_is_count
theorem sc_is_count : FnScope N_is_count ["value"] (defScope st_is_count) := ⟨rfl, rfl, rfl, by decide +kernel, rfl, by decide +kernel, by decide +kernel⟩
abbrev st_power_of_two : Stmt := top 11
abbrev N_power_of_two : List Str := ["many"]
def u_power_of_two : SS := sSeq (sRet (s2 fShl (sLit (.int 1)) (sVar 0)))
  (sSkip)
def F_power_of_two : Fn := runF .no 1 u_power_of_two
theorem sc_power_of_two : FnScope N_power_of_two ["many"] (defScope st_power_of_two) := ⟨rfl, rfl, rfl, by decide +kernel, rfl, by decide +kernel, by decide +kernel⟩
abbrev st_is_word : Stmt := top 12
abbrev N_is_word : List Str := ["width", "value"]
def u_is_word : SS := sSeq (sRet (sAndV (qCall 1 F_is_count (qP (sPCons (sVar 1) (sPNil)))) (s2 fLt (sVar 1) (qCall 1 F_power_of_two (qP (sPCons (sVar 0) (sPNil)))))))
  (sSkip)
def F_is_word : Fn := runF .no 2 u_is_word
theorem sc_is_word : FnScope N_is_word ["width", "value"] (defScope st_is_word) := ⟨rfl, rfl, rfl, by decide +kernel, rfl, by decide +kernel, by decide +kernel⟩
abbrev st_check_word : Stmt := top 13
abbrev N_check_word : List Str := ["width", "word"]
def u_check_word : SS := sSeq (sIfS (sNot (sTru (qCall 2 F_is_word (qP (sPCons (sVar 0) (sPCons (sVar 1) (sPNil))))))) (sSeq (sNever)
  (sSkip)) (sSkip))
  (sSkip)
def F_check_word : Fn := runF .no 2 u_check_word
theorem sc_check_word : FnScope N_check_word ["width", "word"] (defScope st_check_word) := ⟨rfl, rfl, rfl, by decide +kernel, rfl, by decide +kernel, by decide +kernel⟩
abbrev st_is_width : Stmt := top 9
abbrev N_is_width : List Str := ["value"]
def u_is_width : SS := sSeq (sRet (sAndV (qCall 1 F_is_count (qP (sPCons (sVar 0) (sPNil)))) (s2 fLe (sVar 0) (sLit (.int 64)))))
  (sSkip)
def F_is_width : Fn := runF .no 1 u_is_width
theorem sc_is_width : FnScope N_is_width ["value"] (defScope st_is_width) := ⟨rfl, rfl, rfl, by decide +kernel, rfl, by decide +kernel, by decide +kernel⟩
abbrev st_check_width : Stmt := top 10
abbrev N_check_width : List Str := ["width"]
def u_check_width : SS := sSeq (sIfS (sNot (sTru (qCall 1 F_is_width (qP (sPCons (sVar 0) (sPNil)))))) (sSeq (sNever)
  (sSkip)) (sSkip))
  (sSkip)
def F_check_width : Fn := runF .no 1 u_check_width
theorem sc_check_width : FnScope N_check_width ["width"] (defScope st_check_width) := ⟨rfl, rfl, rfl, by decide +kernel, rfl, by decide +kernel, by decide +kernel⟩
abbrev st_bits_of : Stmt := top 17
abbrev N_bits_of : List Str := ["width", "word", "place"]
def u_bits_of : SS := sSeq (sDrop (qCall 1 F_check_width (qP (sPCons (sVar 0) (sPNil)))))
  (sSeq (sDrop (qCall 2 F_check_word (qP (sPCons (sVar 0) (sPCons (sVar 1) (sPNil))))))
  (sSeq (sRet (sLc (sItR1 (sVar 0)) (gN 2) (tYesS) (qCall 2 F_bit_of (qP (sPCons (sVar 1) (sPCons (sVar 2) (sPNil))))) [2]))
  (sSkip)))
def F_bits_of : Fn := runF .no 3 u_bits_of
theorem sc_bits_of : FnScope N_bits_of ["width", "word"] (defScope st_bits_of) := ⟨rfl, rfl, rfl, by decide +kernel, rfl, by decide +kernel, by decide +kernel⟩
abbrev st_word_of_bits : Stmt := top 18
abbrev N_word_of_bits : List Str := ["bits", "bit", "place"]
def u_word_of_bits : SS := sSeq (sIfS (sOr (sNot (sTru (s1 (fIsi "list") (sVar 0)))) (sBoo (s2 fGt (s1 fLen (sVar 0)) (sLit (.int 64))))) (sSeq (sNever)
  (sSkip)) (sSkip))
  (sSeq (sIfS (sBoo (s2 fNe (sLc (sItS (sVarF 0)) (gN 1) (sOr (sNot (sTru (qCall 1 F_is_count (qP (sPCons (sVar 1) (sPNil)))))) (sBoo (s2 fGt (sVar 1) (sLit (.int 1))))) (sVarF 1) [1]) (sLst (sANil)))) (sSeq (sNever)
  (sSkip)) (sSkip))
  (sSeq (sRet (s1 fSum (sLc (sItE (sVarF 0)) (gT 2 (gsCons (gN 2) (gsCons (gN 1) (gsNil)))) (tYesS) (s2 fShl (sVar 1) (sVar 2)) [2, 1])))
  (sSkip)))
def F_word_of_bits : Fn := runF .no 3 u_word_of_bits
theorem sc_word_of_bits : FnScope N_word_of_bits ["bits"] (defScope st_word_of_bits) := ⟨rfl, rfl, rfl, by decide +kernel, rfl, by decide +kernel, by decide +kernel⟩
abbrev st__law_two : Stmt := top 24
abbrev N__law_two : List Str := ["_law_many"]
def u__law_two : SS := sSeq (sRet (s2 fShl (sLit (.int 1)) (s1 fInt (sVar 0))))
  (sSkip)
def F__law_two : Fn := runF .no 1 u__law_two
theorem sc__law_two : FnScope N__law_two ["_law_many"] (defScope st__law_two) := ⟨rfl, rfl, rfl, by decide +kernel, rfl, by decide +kernel, by decide +kernel⟩
abbrev st__law_hash : Stmt := top 20
abbrev N__law_hash : List Str := ["_law_seed", "_law_index", "_law_mixed"]
def u__law_hash : SS := sSeq (sSet 2 (s2 fMod (s1 fInt (s2 fAdd (s2 fAdd (s2 fAdd (s2 fMul (sVar 0) (sLit (.int 1140671))) (s2 fMul (s2 fMul (sLit (.int 27644437)) (sVar 1)) (sVar 1))) (s2 fMul (sLit (.int 131)) (sVar 1))) (sLit (.int 19)))) (sLit (.int 2147483629))))
  (sSeq (sSet 2 (s2 fMod (s1 fInt (s2 fAdd (s2 fAdd (s2 fMul (sVar 2) (sVar 2)) (s2 fMul (sLit (.int 62089)) (sVar 1))) (sLit (.int 32416187)))) (sLit (.int 2147483587))))
  (sSeq (sRet (s2 fMod (s1 fInt (s2 fMul (sVar 2) (sLit (.int 48271)))) (sLit (.int 2147483647))))
  (sSkip)))
def F__law_hash : Fn := runF .no 3 u__law_hash
theorem sc__law_hash : FnScope N__law_hash ["_law_seed", "_law_index"] (defScope st__law_hash) := ⟨rfl, rfl, rfl, by decide +kernel, rfl, by decide +kernel, by decide +kernel⟩
abbrev st__law_random : Stmt := top 21
abbrev N__law_random : List Str := ["_law_generator_here", "_law_bound", "_law_drawn", "_law_turn"]
def v__law_random_1 : SS := sSeq (sSetIx 0 (s2 fAdd (sBorIx 0 2) (sLit (.int 1))) (sLit (.int 2)))
  (sSeq (sSet 2 (s2 fAdd (s2 fMul (sVar 2) (sLit (.int 2147483587))) (qCall 2 F__law_hash (qP (sPCons (sBorIx 0 1) (sPCons (sBorIx 0 2) (sPNil)))))))
  (sSkip))
def u__law_random : SS := sSeq (sIfS (sBoo (s2 fGt (sBorIx 0 0) (sLit (.int 0)))) (sSeq (sSet 2 (s2 fMod (s1 fInt (sBorIx 0 0)) (sVar 1)))
  (sSeq (sSetIx 0 (s2 fFdiv (sBorIx 0 0) (sVar 1)) (sLit (.int 0)))
  (sSeq (sRet (sVarF 2))
  (sSkip)))) (sSkip))
  (sSeq (sSet 2 (sLit (.int 0)))
  (sSeq (sFor (sItR1 (s2 fAdd (sLit (.int 1)) (s2 fFdiv (s1 fBits (sVar 1)) (sLit (.int 30))))) (gN 3) (v__law_random_1))
  (sSeq (sRet (s2 fMod (s1 fInt (sVar 2)) (sVar 1)))
  (sSkip))))
def F__law_random : Fn := runF .bo 4 u__law_random
theorem sc__law_random : FnScope N__law_random ["_law_generator_here", "_law_bound"] (defScope st__law_random) := ⟨rfl, rfl, rfl, by decide +kernel, rfl, by decide +kernel, by decide +kernel⟩
abbrev st__law_right : Stmt := top 25
abbrev N__law_right : List Str := ["_law_generator_here", "_law_width_there", "_law_words", "_law_turn", "_law_word_there", "_law_place", "_law_told", "_law_due", "_law_left"]
def v__law_right_1 : SS := sSeq (sPar 7 8 (s2 fAdd (sVar 7) (sLst (sACons (s2 fSub (sVar 8) (s2 fMul (sLit (.int 2)) (s2 fFdiv (sVar 8) (sLit (.int 2))))) (sANil)))) (s2 fFdiv (sVar 8) (sLit (.int 2))))
  (sSkip)
def v__law_right_2 : SS := sSeq (sPar 7 8 (sLst (sANil)) (sVarF 4))
  (sSeq (sFor (sItR1 (sVar 1)) (gN 5) (v__law_right_1))
  (sSeq (sSet 6 (qCall 2 F_bits_of (qP (sPCons (sVar 1) (sPCons (sVar 4) (sPNil))))))
  (sSeq (sIfS (sOr (sBoo (s2 fNe (s1 fRepr (sVar 6)) (s1 fRepr (sVar 7)))) (sBoo (s2 fNe (qCallK 2 [1, 0] F_bits_of (qP (sPCons (sVar 4) (sPCons (sVar 1) (sPNil))))) (sVar 7)))) (sSeq (sRet (sLit (.bool false)))
  (sSkip)) (sSkip))
  (sSeq (sIfS (sOr (sBoo (s2 fNe (s1 fRepr (qCall 1 F_word_of_bits (qP (sPCons (sVar 6) (sPNil))))) (s1 fRepr (sVar 4)))) (sOr (sBoo (s2 fNe (qCallK 1 [0] F_word_of_bits (qP (sPCons (sVar 7) (sPNil)))) (sVar 4))) (sBoo (s2 fNe (sVar 6) (sVar 7))))) (sSeq (sRet (sLit (.bool false)))
  (sSkip)) (sSkip))
  (sSeq (sApp 6 (sLit .none))
  (sSeq (sIfS (sBoo (s2 fNe (qCall 2 F_bits_of (qP (sPCons (sVar 1) (sPCons (sVar 4) (sPNil))))) (sVar 7))) (sSeq (sRet (sLit (.bool false)))
  (sSkip)) (sSkip))
  (sSeq (sIfS (sAnd (sBoo (s2 fLt (sVar 1) (sLit (.int 64)))) (sOr (sBoo (s2 fNe (qCall 1 F_word_of_bits (qP (sPCons (s2 fAdd (sVar 7) (sLst (sACons (sLit (.int 0)) (sANil)))) (sPNil)))) (sVar 4))) (sBoo (s2 fNe (qCall 1 F_word_of_bits (qP (sPCons (s2 fAdd (sVar 7) (sLst (sACons (sLit (.int 1)) (sANil)))) (sPNil)))) (s2 fAdd (sVar 4) (qCall 1 F__law_two (qP (sPCons (sVar 1) (sPNil))))))))) (sSeq (sRet (sLit (.bool false)))
  (sSkip)) (sSkip))
  (sSkip))))))))
def u__law_right : SS := sSeq (sSet 1 (s2 fIx (sLst (sACons (qCallB 1 F__law_random 0 (qP (sPCons (sLit (.int 6)) (sPNil)))) (sACons (qCallB 1 F__law_random 0 (qP (sPCons (sLit (.int 65)) (sPNil)))) (sANil)))) (qCallB 1 F__law_random 0 (qP (sPCons (sLit (.int 2)) (sPNil))))))
  (sSeq (sSet 2 (sIf (sBoo (s2 fLt (sVar 1) (sLit (.int 6)))) (sLR1 (qCall 1 F__law_two (qP (sPCons (sVar 1) (sPNil))))) (sLc (sItR1 (sLit (.int 6))) (gN 3) (tYesS) (qCallB 1 F__law_random 0 (qP (sPCons (qCall 1 F__law_two (qP (sPCons (sVar 1) (sPNil)))) (sPNil)))) [3])))
  (sSeq (sFor (sItS (sVarF 2)) (gN 4) (v__law_right_2))
  (sSeq (sRet (sLit (.bool true)))
  (sSkip))))
def F__law_right : Fn := runF .bo 9 u__law_right
theorem sc__law_right : FnScope N__law_right ["_law_generator_here"] (defScope st__law_right) := ⟨rfl, rfl, rfl, by decide +kernel, rfl, by decide +kernel, by decide +kernel⟩
abbrev st__law_cell : Stmt := top 22
abbrev N__law_cell : List Str := ["_law_script", "_law_index"]
def u__law_cell : SS := sSeq (sIfS (sBoo (s2 fLt (sVar 1) (s1 fLen (sVar 0)))) (sSeq (sRet (s2 fIx (sVar 0) (sVar 1)))
  (sSkip)) (sSkip))
  (sSeq (sRet (s2 fMod (s1 fSum (sSl (sVar 0) (oNone) (oSome (sLit (.int 1))))) (sLit (.int 1000003))))
  (sSkip))
def F__law_cell : Fn := runF .rd 2 u__law_cell
theorem sc__law_cell : FnScope N__law_cell ["_law_script", "_law_index"] (defScope st__law_cell) := ⟨rfl, rfl, rfl, by decide +kernel, rfl, by decide +kernel, by decide +kernel⟩
abbrev st__law_generator : Stmt := top 23
abbrev N__law_generator : List Str := ["_law_script", "_law_index", "_law_seed"]
def u__law_generator : SS := sSeq (sSet 2 (qCallR 1 F__law_cell 0 (qP (sPCons (sVar 1) (sPNil)))))
  (sSeq (sRet (sLst (sACons (s2 fMod (s1 fInt (s2 fMax2 (s2 fSub (sVar 2) (s2 fPow (sLit (.int 10)) (sLit (.int 18)))) (sLit (.int 0)))) (s2 fPow (s2 fPow (sLit (.int 10)) (sLit (.int 60))) (sLit (.int 10)))) (sACons (s2 fMod (s1 fInt (sVar 2)) (sLit (.int 2147483647))) (sACons (s2 fMul (sLit (.int 1000)) (sVar 1)) (sANil))))))
  (sSkip))
def F__law_generator : Fn := runF .rd 3 u__law_generator
theorem sc__law_generator : FnScope N__law_generator ["_law_script", "_law_index"] (defScope st__law_generator) := ⟨rfl, rfl, rfl, by decide +kernel, rfl, by decide +kernel, by decide +kernel⟩
abbrev st_law : Stmt := top 26
abbrev N_law : List Str := ["_law_script", "_law_index"]
def v_law_1 : SS := sSeq (sIfS (sNot (sTru (sCallT 0 F__law_right (qCallR 1 F__law_generator 0 (qP (sPCons (sVar 1) (sPNil)))) (sANil)))) (sSeq (sRet (sLit (.bool false)))
  (sSkip)) (sSkip))
  (sSkip)
def u_law : SS := sSeq (sFor (sItR1 (sLit (.int 3))) (gN 1) (v_law_1))
  (sSeq (sRet (sAndV (s2 fEq (qCall 2 F_bits_of (qP (sPCons (sLit (.int 0)) (sPCons (sLit (.int 0)) (sPNil))))) (sLst (sANil))) (sAndV (s2 fEq (qCall 1 F_word_of_bits (qP (sPCons (sLst (sANil)) (sPNil)))) (sLit (.int 0))) (sAndV (s2 fEq (qCall 1 F_word_of_bits (qP (sPCons (s2 fMul (sLst (sACons (sLit (.int 1)) (sANil))) (sLit (.int 64))) (sPNil)))) (s2 fSub (s2 fPow (sLit (.int 2)) (sLit (.int 64))) (sLit (.int 1)))) (s2 fEq (qCall 2 F_bits_of (qP (sPCons (sLit (.int 64)) (sPCons (s2 fPow (sLit (.int 2)) (sLit (.int 63))) (sPNil))))) (s2 fAdd (s2 fMul (sLst (sACons (sLit (.int 0)) (sANil))) (sLit (.int 63))) (sLst (sACons (sLit (.int 1)) (sANil)))))))))
  (sSkip))
def F_law : Fn := runF .rd 2 u_law
theorem sc_law : FnScope N_law ["_law_script"] (defScope st_law) := ⟨rfl, rfl, rfl, by decide +kernel, rfl, by decide +kernel, by decide +kernel⟩
structure TX (K : PySem.W.Frag) (mg : Str → Option Value) where
  n_bool : mg "bool" = none
  n_enumerate : mg "enumerate" = none
  n_int : mg "int" = none
  n_isinstance : mg "isinstance" = none
  n_len : mg "len" = none
  n_list : mg "list" = none
  n_max : mg "max" = none
  n_range : mg "range" = none
  n_repr : mg "repr" = none
  n_sum : mg "sum" = none
  t_MOST_BITS : Tok
  g_MOST_BITS : mg "MOST_BITS" = some (.int 64 t_MOST_BITS)
  t_MOST_WIDTH : Tok
  g_MOST_WIDTH : mg "MOST_WIDTH" = some (.int 64 t_MOST_WIDTH)
  a_bit_of : Addr
  d_bit_of : FuncData
  F_bit_of : Fun K "bit_of" "bit_of" st_bit_of a_bit_of d_bit_of
  b_bit_of : Binds K d_bit_of ["word", "place"] []
  m_bit_of : mg "bit_of" = some (.ref a_bit_of)
  a_is_whole : Addr
  d_is_whole : FuncData
  F_is_whole : Fun K "is_whole" "is_whole" st_is_whole a_is_whole d_is_whole
  b_is_whole : Binds K d_is_whole ["value"] []
  m_is_whole : mg "is_whole" = some (.ref a_is_whole)
  a_is_count : Addr
  d_is_count : FuncData
  F_is_count : Fun K "is_count" "is_count" st_is_count a_is_count d_is_count
  b_is_count : Binds K d_is_count ["value"] []
  m_is_count : mg "is_count" = some (.ref a_is_count)
  a_power_of_two : Addr
  d_power_of_two : FuncData
  F_power_of_two : Fun K "power_of_two" "power_of_two" st_power_of_two a_power_of_two d_power_of_two
  b_power_of_two : Binds K d_power_of_two ["many"] []
  m_power_of_two : mg "power_of_two" = some (.ref a_power_of_two)
  a_is_word : Addr
  d_is_word : FuncData
  F_is_word : Fun K "is_word" "is_word" st_is_word a_is_word d_is_word
  b_is_word : Binds K d_is_word ["width", "value"] []
  m_is_word : mg "is_word" = some (.ref a_is_word)
  a_check_word : Addr
  d_check_word : FuncData
  F_check_word : Fun K "check_word" "check_word" st_check_word a_check_word d_check_word
  b_check_word : Binds K d_check_word ["width", "word"] []
  m_check_word : mg "check_word" = some (.ref a_check_word)
  a_is_width : Addr
  d_is_width : FuncData
  F_is_width : Fun K "is_width" "is_width" st_is_width a_is_width d_is_width
  b_is_width : Binds K d_is_width ["value"] []
  m_is_width : mg "is_width" = some (.ref a_is_width)
  a_check_width : Addr
  d_check_width : FuncData
  F_check_width : Fun K "check_width" "check_width" st_check_width a_check_width d_check_width
  b_check_width : Binds K d_check_width ["width"] []
  m_check_width : mg "check_width" = some (.ref a_check_width)
  a_bits_of : Addr
  d_bits_of : FuncData
  F_bits_of : Fun K "bits_of" "bits_of" st_bits_of a_bits_of d_bits_of
  b_bits_of : Binds K d_bits_of ["width", "word"] []
  m_bits_of : mg "bits_of" = some (.ref a_bits_of)
  k_bits_of_word_width : KWB K d_bits_of ["width", "word"] ["word", "width"] [1, 0]
  a_word_of_bits : Addr
  d_word_of_bits : FuncData
  F_word_of_bits : Fun K "word_of_bits" "word_of_bits" st_word_of_bits a_word_of_bits d_word_of_bits
  b_word_of_bits : Binds K d_word_of_bits ["bits"] []
  m_word_of_bits : mg "word_of_bits" = some (.ref a_word_of_bits)
  k_word_of_bits_bits : KWB K d_word_of_bits ["bits"] ["bits"] [0]
  a__law_two : Addr
  d__law_two : FuncData
  F__law_two : Fun K "_law_two" "_law_two" st__law_two a__law_two d__law_two
  b__law_two : Binds K d__law_two ["_law_many"] []
  m__law_two : mg "_law_two" = some (.ref a__law_two)
  a__law_hash : Addr
  d__law_hash : FuncData
  F__law_hash : Fun K "_law_hash" "_law_hash" st__law_hash a__law_hash d__law_hash
  b__law_hash : Binds K d__law_hash ["_law_seed", "_law_index"] []
  m__law_hash : mg "_law_hash" = some (.ref a__law_hash)
  a__law_random : Addr
  d__law_random : FuncData
  F__law_random : Fun K "_law_random" "_law_random" st__law_random a__law_random d__law_random
  b__law_random : Binds K d__law_random ["_law_generator_here", "_law_bound"] []
  m__law_random : mg "_law_random" = some (.ref a__law_random)
  a__law_right : Addr
  d__law_right : FuncData
  F__law_right : Fun K "_law_right" "_law_right" st__law_right a__law_right d__law_right
  b__law_right : Binds K d__law_right ["_law_generator_here"] []
  m__law_right : mg "_law_right" = some (.ref a__law_right)
  a__law_cell : Addr
  d__law_cell : FuncData
  F__law_cell : Fun K "_law_cell" "_law_cell" st__law_cell a__law_cell d__law_cell
  b__law_cell : Binds K d__law_cell ["_law_script", "_law_index"] []
  m__law_cell : mg "_law_cell" = some (.ref a__law_cell)
  a__law_generator : Addr
  d__law_generator : FuncData
  F__law_generator : Fun K "_law_generator" "_law_generator" st__law_generator a__law_generator d__law_generator
  b__law_generator : Binds K d__law_generator ["_law_script", "_law_index"] []
  m__law_generator : mg "_law_generator" = some (.ref a__law_generator)
  a_law : Addr
  d_law : FuncData
  F_law : Fun K "law" "law" st_law a_law d_law
  b_law : Binds K d_law ["_law_script"] []
  m_law : mg "law" = some (.ref a_law)
section
variable {P : Program} {w : World} {K : PySem.W.Frag} {mg : Str → Option Value} {base : Heap}
theorem ok_bit_of (T : TX K mg) : FnG P w K mg base 1 T.a_bit_of T.d_bit_of ["word", "place"] (spF K .no 2 F_bit_of) :=
  fnG T.F_bit_of sc_bit_of rfl fun cdv A outer s H E hr hg => dss_cons (ds_ret (d_op op_and ok_I (d_op op_shr ok_shr (d_var (pv 0)) (d_var (pv 1))) (d_int)))
  (dss_nil)
theorem ok_is_whole (T : TX K mg) : FnG P w K mg base 1 T.a_is_whole T.d_is_whole ["value"] (spF K .no 1 F_is_whole) :=
  fnG T.F_is_whole sc_is_whole rfl fun cdv A outer s H E hr hg => dss_cons (ds_ret (d_andV (d_isi (T := "int") (by decide) rfl (by decide) (by decide) (by rfl) T.n_isinstance (by rfl) T.n_int (d_var (pv 0))) (d_one (d_notV (d_isi (T := "bool") (by decide) rfl (by decide) (by decide) (by rfl) T.n_isinstance (by rfl) T.n_bool (d_var (pv 0)))))))
  (dss_nil)
theorem ok_is_count (T : TX K mg) : FnG P w K mg base 2 T.a_is_count T.d_is_count ["value"] (spF K .no 1 F_is_count) :=
  fnG T.F_is_count sc_is_count rfl fun cdv A outer s H E hr hg => dss_cons (ds_ret (d_andV (e_call (ok_is_whole T) (hr.mono (by decide)) hg (by rfl) T.m_is_whole T.F_is_whole.kp T.b_is_whole (dq_P (dp_cons (d_var (pv 0)) (dp_nil)))) (d_one (d_cmp op_ge ok_cmp (d_var (pv 0)) (d_int) (by rfl)))))
  (dss_nil)
theorem ok_power_of_two (T : TX K mg) : FnG P w K mg base 1 T.a_power_of_two T.d_power_of_two ["many"] (spF K .no 1 F_power_of_two) :=
  fnG T.F_power_of_two sc_power_of_two rfl fun cdv A outer s H E hr hg => dss_cons (ds_ret (d_op op_shlW ok_shl (d_int) (d_var (pv 0))))
  (dss_nil)
theorem ok_is_word (T : TX K mg) : FnG P w K mg base 3 T.a_is_word T.d_is_word ["width", "value"] (spF K .no 2 F_is_word) :=
  fnG T.F_is_word sc_is_word rfl fun cdv A outer s H E hr hg => dss_cons (ds_ret (d_andV (e_call (ok_is_count T) (hr.mono (by decide)) hg (by rfl) T.m_is_count T.F_is_count.kp T.b_is_count (dq_P (dp_cons (d_var (pv 1)) (dp_nil)))) (d_one (d_cmp op_lt ok_cmp (d_var (pv 1)) (e_call (ok_power_of_two T) (hr.mono (by decide)) hg (by rfl) T.m_power_of_two T.F_power_of_two.kp T.b_power_of_two (dq_P (dp_cons (d_var (pv 0)) (dp_nil)))) (by rfl)))))
  (dss_nil)
theorem ok_check_word (T : TX K mg) : FnG P w K mg base 4 T.a_check_word T.d_check_word ["width", "word"] (spF K .no 2 F_check_word) :=
  fnG T.F_check_word sc_check_word rfl fun cdv A outer s H E hr hg => dss_cons (ds_if (dt_not (dt_truth (e_call (ok_is_word T) (hr.mono (by decide)) hg (by rfl) T.m_is_word T.F_is_word.kp T.b_is_word (dq_P (dp_cons (d_var (pv 0)) (dp_cons (d_var (pv 1)) (dp_nil))))))) (dss_cons (ds_never)
  (dss_nil)) (dss_nil))
  (dss_nil)
theorem ok_is_width (T : TX K mg) : FnG P w K mg base 3 T.a_is_width T.d_is_width ["value"] (spF K .no 1 F_is_width) :=
  fnG T.F_is_width sc_is_width rfl fun cdv A outer s H E hr hg => dss_cons (ds_ret (d_andV (e_call (ok_is_count T) (hr.mono (by decide)) hg (by rfl) T.m_is_count T.F_is_count.kp T.b_is_count (dq_P (dp_cons (d_var (pv 0)) (dp_nil)))) (d_one (d_cmp op_le ok_cmp (d_var (pv 0)) (d_globI (by rfl) T.g_MOST_WIDTH) (by rfl)))))
  (dss_nil)
theorem ok_check_width (T : TX K mg) : FnG P w K mg base 4 T.a_check_width T.d_check_width ["width"] (spF K .no 1 F_check_width) :=
  fnG T.F_check_width sc_check_width rfl fun cdv A outer s H E hr hg => dss_cons (ds_if (dt_not (dt_truth (e_call (ok_is_width T) (hr.mono (by decide)) hg (by rfl) T.m_is_width T.F_is_width.kp T.b_is_width (dq_P (dp_cons (d_var (pv 0)) (dp_nil)))))) (dss_cons (ds_never)
  (dss_nil)) (dss_nil))
  (dss_nil)
theorem ok_bits_of (T : TX K mg) : FnG P w K mg base 5 T.a_bits_of T.d_bits_of ["width", "word"] (spF K .no 2 F_bits_of) :=
  fnG T.F_bits_of sc_bits_of rfl fun cdv A outer s H E hr hg => dss_cons (ds_drop (e_call (ok_check_width T) (hr.mono (by decide)) hg (by rfl) T.m_check_width T.F_check_width.kp T.b_check_width (dq_P (dp_cons (d_var (pv 0)) (dp_nil)))))
  (dss_cons (ds_drop (e_call (ok_check_word T) (hr.mono (by decide)) hg (by rfl) T.m_check_word T.F_check_word.kp T.b_check_word (dq_P (dp_cons (d_var (pv 0)) (dp_cons (d_var (pv 1)) (dp_nil))))))
  (dss_cons (ds_ret (d_lc (own := [("place", 2)]) rfl sc_bits_of.nd (di_rng1 (by rfl) T.n_range (d_var (pv 0))) (blkOk_by (by rfl)) (by decide) (fun _ _ _ _ _ => dg_name (pg_name (i := 2) sc_bits_of.nd rfl (by first | exact Or.inl rfl | exact Or.inr rfl))) (fun _ _ _ _ _ => dts_nil) (fun _ _ _ _ _ => e_call (ok_bit_of T) (hr.mono (by decide)) hg (by rfl) T.m_bit_of T.F_bit_of.kp T.b_bit_of (dq_P (dp_cons (d_var (pv 1)) (dp_cons (d_var (pv 2)) (dp_nil)))))))
  (dss_nil)))
theorem ok_word_of_bits (T : TX K mg) : FnG P w K mg base 3 T.a_word_of_bits T.d_word_of_bits ["bits"] (spF K .no 1 F_word_of_bits) :=
  fnG T.F_word_of_bits sc_word_of_bits rfl fun cdv A outer s H E hr hg => dss_cons (ds_if (PW.pt (dw_or (dt_not (dt_truth (d_isi (T := "list") (by decide) rfl (by decide) (by decide) (by rfl) T.n_isinstance (by rfl) T.n_list (d_var (pv 0))))) (dw_or1 (dt_cmp op_gt ok_cmp (d_len (by rfl) T.n_len (d_var (pv 0))) (d_globI (by rfl) T.g_MOST_BITS) (by rfl))))) (dss_cons (ds_never)
  (dss_nil)) (dss_nil))
  (dss_cons (ds_if (dt_cmp (op_neD (U64 hr)) ok_ne (d_lc (own := [("bit", 1)]) rfl sc_word_of_bits.nd (di_seq (d_varF (pv 0))) (blkOk_by (by rfl)) (by decide) (fun _ _ _ _ _ => dg_name (pg_name (i := 1) sc_word_of_bits.nd rfl (by first | exact Or.inl rfl | exact Or.inr rfl))) (fun _ _ _ _ _ => dts_one (PW.pt (dw_or (dt_not (dt_truth (e_call (ok_is_count T) (hr.mono (by decide)) hg (by rfl) T.m_is_count T.F_is_count.kp T.b_is_count (dq_P (dp_cons (d_var (pv 1)) (dp_nil)))))) (dw_or1 (dt_cmp op_gt ok_cmp (d_var (pv 1)) (d_int) (by rfl)))))) (fun _ _ _ _ _ => d_varF (pv 1))) (d_lst (da_nil)) (by rfl)) (dss_cons (ds_never)
  (dss_nil)) (dss_nil))
  (dss_cons (ds_ret (d_sum rfl (by rfl) T.n_sum (d_lc (own := [("place", 2), ("bit", 1)]) rfl sc_word_of_bits.nd (di_enum (by rfl) T.n_enumerate (d_varF (pv 0))) (blkOk_by (by rfl)) (by decide) (fun _ _ _ _ _ => dg_tup rfl (dgs_cons (dg_name (pg_name (i := 2) sc_word_of_bits.nd rfl (by first | exact Or.inl rfl | exact Or.inr rfl))) (dgs_cons (dg_name (pg_name (i := 1) sc_word_of_bits.nd rfl (by first | exact Or.inl rfl | exact Or.inr rfl))) (dgs_nil)))) (fun _ _ _ _ _ => dts_nil) (fun _ _ _ _ _ => d_op op_shlW ok_shl (d_var (pv 1)) (d_var (pv 2))))))
  (dss_nil)))
theorem ok__law_two (T : TX K mg) : FnG P w K mg base 1 T.a__law_two T.d__law_two ["_law_many"] (spF K .no 1 F__law_two) :=
  fnG T.F__law_two sc__law_two rfl fun cdv A outer s H E hr hg => dss_cons (ds_ret (d_op op_shlW ok_shl (d_int) (d_intc (by rfl) T.n_int (d_var (pv 0)))))
  (dss_nil)
theorem ok__law_hash (T : TX K mg) : FnG P w K mg base 1 T.a__law_hash T.d__law_hash ["_law_seed", "_law_index"] (spF K .no 2 F__law_hash) :=
  fnG T.F__law_hash sc__law_hash rfl fun cdv A outer s H E hr hg => dss_cons (ds_set (ps_set (i := 2) sc__law_hash.nd rfl (by first | exact Or.inl rfl | exact Or.inr rfl) (d_op op_mod ok_mod (d_intc (by rfl) T.n_int (d_op op_addS ok_add (d_op op_addS ok_add (d_op op_addS ok_add (d_op op_mulS ok_mul (d_var (pv 0)) (d_int)) (d_op op_mulS ok_mul (d_op op_mulS ok_mul (d_int) (d_var (pv 1))) (d_var (pv 1)))) (d_op op_mulS ok_mul (d_int) (d_var (pv 1)))) (d_int))) (d_int))))
  (dss_cons (ds_set (ps_set (i := 2) sc__law_hash.nd rfl (by first | exact Or.inl rfl | exact Or.inr rfl) (d_op op_mod ok_mod (d_intc (by rfl) T.n_int (d_op op_addS ok_add (d_op op_addS ok_add (d_op op_mulS ok_mul (d_var (pv 2)) (d_var (pv 2))) (d_op op_mulS ok_mul (d_int) (d_var (pv 1)))) (d_int))) (d_int))))
  (dss_cons (ds_ret (d_op op_mod ok_mod (d_intc (by rfl) T.n_int (d_op op_mulS ok_mul (d_var (pv 2)) (d_int))) (d_int)))
  (dss_nil)))
theorem ok__law_random (T : TX K mg) : FnG P w K mg base 2 T.a__law_random T.d__law_random ["_law_generator_here", "_law_bound"] (spF K .bo 1 F__law_random) :=
  fnG T.F__law_random sc__law_random rfl fun cdv A outer s H E hr hg => dss_cons (ds_if (dt_cmp op_gt ok_cmp (d_borIx (pv 0)) (d_int) (by rfl)) (dss_cons (ds_set (ps_set (i := 2) sc__law_random.nd rfl (by first | exact Or.inl rfl | exact Or.inr rfl) (d_op op_mod ok_mod (d_intc (by rfl) T.n_int (d_borIx (pv 0))) (d_var (pv 1)))))
  (dss_cons (ds_setIx (ps_asg (d_op op_fdivW ok_fdiv (d_borIx (pv 0)) (d_var (pv 1))) (pg_sub (pv 0) (d_int) set_list)))
  (dss_cons (ds_ret (d_varF (pv 2)))
  (dss_nil)))) (dss_nil))
  (dss_cons (ds_set (ps_set (i := 2) sc__law_random.nd rfl (by first | exact Or.inl rfl | exact Or.inr rfl) (d_int)))
  (dss_cons (ds_for PassesOwn.never rfl (di_rng1 (by rfl) T.n_range (d_op op_addS ok_add (d_int) (d_op op_fdivW ok_fdiv (d_bits (d_var (pv 1))) (d_int)))) (dg_name (pg_name (i := 3) sc__law_random.nd rfl (by first | exact Or.inl rfl | exact Or.inr rfl))) (dss_cons (ds_setIx (ps_asg (d_op op_addS ok_add (d_borIx (pv 0)) (d_int)) (pg_sub (pv 0) (d_int) set_list)))
  (dss_cons (ds_set (ps_set (i := 2) sc__law_random.nd rfl (by first | exact Or.inl rfl | exact Or.inr rfl) (d_op op_addS ok_add (d_op op_mulS ok_mul (d_var (pv 2)) (d_int)) (e_call (ok__law_hash T) (hr.mono (by decide)) hg (by rfl) T.m__law_hash T.F__law_hash.kp T.b__law_hash (dq_P (dp_cons (d_borIx (pv 0)) (dp_cons (d_borIx (pv 0)) (dp_nil))))))))
  (dss_nil))))
  (dss_cons (ds_ret (d_op op_mod ok_mod (d_intc (by rfl) T.n_int (d_var (pv 2))) (d_var (pv 1))))
  (dss_nil))))
theorem ok__law_right (T : TX K mg) : FnG P w K mg base 6 T.a__law_right T.d__law_right ["_law_generator_here"] (spF K .bo 0 F__law_right) :=
  fnG T.F__law_right sc__law_right rfl fun cdv A outer s H E hr hg => dss_cons (ds_set (ps_set (i := 1) sc__law_right.nd rfl (by first | exact Or.inl rfl | exact Or.inr rfl) (d_ix (d_lst (da_cons (e_callB (ok__law_random T) (hr.mono (by decide)) hg (by rfl) T.m__law_random T.F__law_random.kp T.b__law_random (pv 0) (dq_P (dp_cons (d_int) (dp_nil)))) (da_cons (e_callB (ok__law_random T) (hr.mono (by decide)) hg (by rfl) T.m__law_random T.F__law_random.kp T.b__law_random (pv 0) (dq_P (dp_cons (d_int) (dp_nil)))) (da_nil)))) (e_callB (ok__law_random T) (hr.mono (by decide)) hg (by rfl) T.m__law_random T.F__law_random.kp T.b__law_random (pv 0) (dq_P (dp_cons (d_int) (dp_nil)))))))
  (dss_cons (ds_set (ps_set (i := 2) sc__law_right.nd rfl (by first | exact Or.inl rfl | exact Or.inr rfl) (d_if (dt_cmp op_lt ok_cmp (d_var (pv 1)) (d_int) (by rfl)) (d_listRg1 rfl (by rfl) T.n_list (by rfl) T.n_range (e_call (ok__law_two T) (hr.mono (by decide)) hg (by rfl) T.m__law_two T.F__law_two.kp T.b__law_two (dq_P (dp_cons (d_var (pv 1)) (dp_nil))))) (d_lc (own := [("_law_turn", 3)]) rfl sc__law_right.nd (di_rng1 (by rfl) T.n_range (d_int)) (blkOk_by (by rfl)) (by decide) (fun _ _ _ _ _ => dg_name (pg_name (i := 3) sc__law_right.nd rfl (by first | exact Or.inl rfl | exact Or.inr rfl))) (fun _ _ _ _ _ => dts_nil) (fun _ _ _ _ _ => e_callB (ok__law_random T) (hr.mono (by decide)) hg (by rfl) T.m__law_random T.F__law_random.kp T.b__law_random (pv 0) (dq_P (dp_cons (e_call (ok__law_two T) (hr.mono (by decide)) hg (by rfl) T.m__law_two T.F__law_two.kp T.b__law_two (dq_P (dp_cons (d_var (pv 1)) (dp_nil)))) (dp_nil))))))))
  (dss_cons (ds_for PassesOwn.never rfl (di_seq (d_varF (pv 2))) (dg_name (pg_name (i := 4) sc__law_right.nd rfl (by first | exact Or.inl rfl | exact Or.inr rfl))) (dss_cons (ds_par (ps_par (i := 7) (j := 8) rfl sc__law_right.nd rfl rfl (by decide) rfl rfl (pa_cons (d_lst (da_nil)) (pa_cons (d_varF (pv 4)) pa_nil)) (by rfl)))
  (dss_cons (ds_for PassesOwn.never rfl (di_rng1 (by rfl) T.n_range (d_var (pv 1))) (dg_name (pg_name (i := 5) sc__law_right.nd rfl (by first | exact Or.inl rfl | exact Or.inr rfl))) (dss_cons (ds_par (ps_par (i := 7) (j := 8) rfl sc__law_right.nd rfl rfl (by decide) rfl rfl (pa_cons (d_op op_addS ok_add (d_var (pv 7)) (d_lst (da_cons (d_op op_sub ok_I (d_var (pv 8)) (d_op op_mulS ok_mul (d_int) (d_op op_fdivW ok_fdiv (d_var (pv 8)) (d_int)))) (da_nil)))) (pa_cons (d_op op_fdivW ok_fdiv (d_var (pv 8)) (d_int)) pa_nil)) (by rfl)))
  (dss_nil)))
  (dss_cons (ds_set (ps_set (i := 6) sc__law_right.nd rfl (by first | exact Or.inl rfl | exact Or.inr rfl) (e_call (ok_bits_of T) (hr.mono (by decide)) hg (by rfl) T.m_bits_of T.F_bits_of.kp T.b_bits_of (dq_P (dp_cons (d_var (pv 1)) (dp_cons (d_var (pv 4)) (dp_nil)))))))
  (dss_cons (ds_if (PW.pt (dw_or (dt_cmp (op_neD (U64 hr)) ok_ne (d_repr hg (U70 hr) (by rfl) T.n_repr (d_var (pv 6))) (d_repr hg (U70 hr) (by rfl) T.n_repr (d_var (pv 7))) (by rfl)) (dw_or1 (dt_cmp (op_neD (U64 hr)) ok_ne (e_callK (ok_bits_of T) (hr.mono (by decide)) hg (by rfl) T.m_bits_of T.F_bits_of.kp T.k_bits_of_word_width (dkq_P (dkp_cons (d_var (pv 4)) (dkp_cons (d_var (pv 1)) (dkp_nil)))) rfl) (d_var (pv 7)) (by rfl))))) (dss_cons (ds_ret (d_bl))
  (dss_nil)) (dss_nil))
  (dss_cons (ds_if (PW.pt (dw_or (dt_cmp (op_neD (U64 hr)) ok_ne (d_repr hg (U70 hr) (by rfl) T.n_repr (e_call (ok_word_of_bits T) (hr.mono (by decide)) hg (by rfl) T.m_word_of_bits T.F_word_of_bits.kp T.b_word_of_bits (dq_P (dp_cons (d_var (pv 6)) (dp_nil))))) (d_repr hg (U70 hr) (by rfl) T.n_repr (d_var (pv 4))) (by rfl)) (dw_or (dt_cmp (op_neD (U64 hr)) ok_ne (e_callK (ok_word_of_bits T) (hr.mono (by decide)) hg (by rfl) T.m_word_of_bits T.F_word_of_bits.kp T.k_word_of_bits_bits (dkq_P (dkp_cons (d_var (pv 7)) (dkp_nil))) rfl) (d_var (pv 4)) (by rfl)) (dw_or1 (dt_cmp (op_neD (U64 hr)) ok_ne (d_var (pv 6)) (d_var (pv 7)) (by rfl)))))) (dss_cons (ds_ret (d_bl))
  (dss_nil)) (dss_nil))
  (dss_cons (ds_app (ps_expr (pe_bm PySem.F.plainAttrs_list PySem.F.slot_list_append PySem.F.type_list_append mt_append (pv 6) (pa_cons (d_non) pa_nil))))
  (dss_cons (ds_if (dt_cmp (op_neD (U64 hr)) ok_ne (e_call (ok_bits_of T) (hr.mono (by decide)) hg (by rfl) T.m_bits_of T.F_bits_of.kp T.b_bits_of (dq_P (dp_cons (d_var (pv 1)) (dp_cons (d_var (pv 4)) (dp_nil))))) (d_var (pv 7)) (by rfl)) (dss_cons (ds_ret (d_bl))
  (dss_nil)) (dss_nil))
  (dss_cons (ds_if (PW.pt (dw_and (dt_cmp op_lt ok_cmp (d_var (pv 1)) (d_int) (by rfl)) (dw_and1 (PW.pt (dw_or (dt_cmp (op_neD (U64 hr)) ok_ne (e_call (ok_word_of_bits T) (hr.mono (by decide)) hg (by rfl) T.m_word_of_bits T.F_word_of_bits.kp T.b_word_of_bits (dq_P (dp_cons (d_op op_addS ok_add (d_var (pv 7)) (d_lst (da_cons (d_int) (da_nil)))) (dp_nil)))) (d_var (pv 4)) (by rfl)) (dw_or1 (dt_cmp (op_neD (U64 hr)) ok_ne (e_call (ok_word_of_bits T) (hr.mono (by decide)) hg (by rfl) T.m_word_of_bits T.F_word_of_bits.kp T.b_word_of_bits (dq_P (dp_cons (d_op op_addS ok_add (d_var (pv 7)) (d_lst (da_cons (d_int) (da_nil)))) (dp_nil)))) (d_op op_addS ok_add (d_var (pv 4)) (e_call (ok__law_two T) (hr.mono (by decide)) hg (by rfl) T.m__law_two T.F__law_two.kp T.b__law_two (dq_P (dp_cons (d_var (pv 1)) (dp_nil))))) (by rfl)))))))) (dss_cons (ds_ret (d_bl))
  (dss_nil)) (dss_nil))
  (dss_nil))))))))))
  (dss_cons (ds_ret (d_bl))
  (dss_nil))))
theorem ok__law_cell (T : TX K mg) : FnG P w K mg base 1 T.a__law_cell T.d__law_cell ["_law_script", "_law_index"] (spF K .rd 1 F__law_cell) :=
  fnG T.F__law_cell sc__law_cell rfl fun cdv A outer s H E hr hg => dss_cons (ds_if (dt_cmp op_lt ok_cmp (d_var (pv 1)) (d_len (by rfl) T.n_len (d_var (pv 0))) (by rfl)) (dss_cons (ds_ret (d_ix (d_var (pv 0)) (d_var (pv 1))))
  (dss_nil)) (dss_nil))
  (dss_cons (ds_ret (d_op op_mod ok_mod (d_sum rfl (by rfl) T.n_sum (d_slice (d_var (pv 0)) (do_none) (do_some (d_int)))) (d_int)))
  (dss_nil))
theorem ok__law_generator (T : TX K mg) : FnG P w K mg base 2 T.a__law_generator T.d__law_generator ["_law_script", "_law_index"] (spF K .rd 1 F__law_generator) :=
  fnG T.F__law_generator sc__law_generator rfl fun cdv A outer s H E hr hg => dss_cons (ds_set (ps_set (i := 2) sc__law_generator.nd rfl (by first | exact Or.inl rfl | exact Or.inr rfl) (e_callR (ok__law_cell T) (hr.mono (by decide)) hg (by rfl) T.m__law_cell T.F__law_cell.kp T.b__law_cell (pv 0) (dq_P (dp_cons (d_var (pv 1)) (dp_nil))))))
  (dss_cons (ds_ret (d_lst (da_cons (d_op op_mod ok_mod (d_intc (by rfl) T.n_int (d_max2 rfl (by rfl) T.n_max (d_op op_sub ok_I (d_var (pv 2)) (d_op op_powS ok_pow (d_int) (d_int))) (d_int))) (d_op op_powS ok_pow (d_op op_powS ok_pow (d_int) (d_int)) (d_int))) (da_cons (d_op op_mod ok_mod (d_intc (by rfl) T.n_int (d_var (pv 2))) (d_int)) (da_cons (d_op op_mulS ok_mul (d_int) (d_var (pv 1))) (da_nil))))))
  (dss_nil))
theorem ok_law (T : TX K mg) : FnG P w K mg base 7 T.a_law T.d_law ["_law_script"] (spF K .rd 0 F_law) :=
  fnG T.F_law sc_law rfl fun cdv A outer s H E hr hg => dss_cons (ds_for PassesOwn.never rfl (di_rng1 (by rfl) T.n_range (d_int)) (dg_name (pg_name (i := 1) sc_law.nd rfl (by first | exact Or.inl rfl | exact Or.inr rfl))) (dss_cons (ds_if (dt_not (dt_truth (d_callT (ok__law_right T) (hr.mono (by decide)) hg (by rfl) T.m__law_right T.F__law_right.kp T.b__law_right (e_callR (ok__law_generator T) (hr.mono (by decide)) hg (by rfl) T.m__law_generator T.F__law_generator.kp T.b__law_generator (pv 0) (dq_P (dp_cons (d_var (pv 1)) (dp_nil)))) (da_nil)))) (dss_cons (ds_ret (d_bl))
  (dss_nil)) (dss_nil))
  (dss_nil)))
  (dss_cons (ds_ret (d_andV (d_cmp (op_eqD (U64 hr)) ok_eq (e_call (ok_bits_of T) (hr.mono (by decide)) hg (by rfl) T.m_bits_of T.F_bits_of.kp T.b_bits_of (dq_P (dp_cons (d_int) (dp_cons (d_int) (dp_nil))))) (d_lst (da_nil)) (by rfl)) (d_andV (d_cmp (op_eqD (U64 hr)) ok_eq (e_call (ok_word_of_bits T) (hr.mono (by decide)) hg (by rfl) T.m_word_of_bits T.F_word_of_bits.kp T.b_word_of_bits (dq_P (dp_cons (d_lst (da_nil)) (dp_nil)))) (d_int) (by rfl)) (d_andV (d_cmp (op_eqD (U64 hr)) ok_eq (e_call (ok_word_of_bits T) (hr.mono (by decide)) hg (by rfl) T.m_word_of_bits T.F_word_of_bits.kp T.b_word_of_bits (dq_P (dp_cons (d_op op_mulS ok_mul (d_lst (da_cons (d_int) (da_nil))) (d_int)) (dp_nil)))) (d_op op_sub ok_I (d_op op_powS ok_pow (d_int) (d_int)) (d_int)) (by rfl)) (d_one (d_cmp (op_eqD (U64 hr)) ok_eq (e_call (ok_bits_of T) (hr.mono (by decide)) hg (by rfl) T.m_bits_of T.F_bits_of.kp T.b_bits_of (dq_P (dp_cons (d_int) (dp_cons (d_op op_powS ok_pow (d_int) (d_int)) (dp_nil))))) (d_op op_addS ok_add (d_op op_mulS ok_mul (d_lst (da_cons (d_int) (da_nil))) (d_int)) (d_lst (da_cons (d_int) (da_nil)))) (by rfl)))))))
  (dss_nil))
end
theorem all_mk {l : PySem.W.OpenLaw} {w : World} {K : PySem.W.Frag} {h : Heap} {mg : Str → Option Value} {fa : Addr} (X : K.In h) (G : h.Ns mainGlobals mg) (hfa : mg "law" = some (.ref fa))
    {f0 : Addr} {od0 an0 : Option Addr} {sl0 : Array (Option Value)} {oc0 kV0 dc0 pm0 cd0 ct0 : Value}
    {f1 : Addr} {od1 an1 : Option Addr} {sl1 : Array (Option Value)} {oc1 kV1 dc1 pm1 cd1 ct1 : Value}
    {f2 : Addr} {od2 an2 : Option Addr} {sl2 : Array (Option Value)} {oc2 kV2 dc2 pm2 cd2 ct2 : Value}
    {f3 : Addr} {od3 an3 : Option Addr} {sl3 : Array (Option Value)} {oc3 kV3 dc3 pm3 cd3 ct3 : Value}
    {f4 : Addr} {od4 an4 : Option Addr} {sl4 : Array (Option Value)} {oc4 kV4 dc4 pm4 cd4 ct4 : Value}
    {f5 : Addr} {od5 an5 : Option Addr} {sl5 : Array (Option Value)} {oc5 kV5 dc5 pm5 cd5 ct5 : Value}
    {f6 : Addr} {od6 an6 : Option Addr} {sl6 : Array (Option Value)} {oc6 kV6 dc6 pm6 cd6 ct6 : Value}
    {f7 : Addr} {od7 an7 : Option Addr} {sl7 : Array (Option Value)} {oc7 kV7 dc7 pm7 cd7 ct7 : Value}
    {f8 : Addr} {od8 an8 : Option Addr} {sl8 : Array (Option Value)} {oc8 kV8 dc8 pm8 cd8 ct8 : Value}
    {f9 : Addr} {od9 an9 : Option Addr} {sl9 : Array (Option Value)} {oc9 kV9 dc9 pm9 cd9 ct9 : Value}
    {f10 : Addr} {od10 an10 : Option Addr} {sl10 : Array (Option Value)} {oc10 kV10 dc10 pm10 cd10 ct10 : Value}
    {f11 : Addr} {od11 an11 : Option Addr} {sl11 : Array (Option Value)} {oc11 kV11 dc11 pm11 cd11 ct11 : Value}
    {f12 : Addr} {od12 an12 : Option Addr} {sl12 : Array (Option Value)} {oc12 kV12 dc12 pm12 cd12 ct12 : Value}
    {f13 : Addr} {od13 an13 : Option Addr} {sl13 : Array (Option Value)} {oc13 kV13 dc13 pm13 cd13 ct13 : Value}
    {f14 : Addr} {od14 an14 : Option Addr} {sl14 : Array (Option Value)} {oc14 kV14 dc14 pm14 cd14 ct14 : Value}
    {f15 : Addr} {od15 an15 : Option Addr} {sl15 : Array (Option Value)} {oc15 kV15 dc15 pm15 cd15 ct15 : Value}
    {f16 : Addr} {od16 an16 : Option Addr} {sl16 : Array (Option Value)} {oc16 kV16 dc16 pm16 cd16 ct16 : Value}
    {t_MOST_BITS : Tok}
    {t_MOST_WIDTH : Tok}
    (a0 : PySem.W.nsIn K mainGlobals "bit_of" = some (some (.ref f0))) (l0 : K.lookup f0 = some ⟨oc0, od0, .func (PySem.W.fnOf "bit_of" "bit_of" (defArgs st_bit_of) (defBody st_bit_of) (defScope st_bit_of) .none kV0 dc0 pm0 an0 cd0 ct0), sl0⟩) (c0 : PySem.W.codeIn K cd0 "bit_of" = true) (k0 : PySem.W.keepIn K (.ref f0) = true)
    (a1 : PySem.W.nsIn K mainGlobals "is_whole" = some (some (.ref f1))) (l1 : K.lookup f1 = some ⟨oc1, od1, .func (PySem.W.fnOf "is_whole" "is_whole" (defArgs st_is_whole) (defBody st_is_whole) (defScope st_is_whole) .none kV1 dc1 pm1 an1 cd1 ct1), sl1⟩) (c1 : PySem.W.codeIn K cd1 "is_whole" = true) (k1 : PySem.W.keepIn K (.ref f1) = true)
    (a2 : PySem.W.nsIn K mainGlobals "is_count" = some (some (.ref f2))) (l2 : K.lookup f2 = some ⟨oc2, od2, .func (PySem.W.fnOf "is_count" "is_count" (defArgs st_is_count) (defBody st_is_count) (defScope st_is_count) .none kV2 dc2 pm2 an2 cd2 ct2), sl2⟩) (c2 : PySem.W.codeIn K cd2 "is_count" = true) (k2 : PySem.W.keepIn K (.ref f2) = true)
    (a3 : PySem.W.nsIn K mainGlobals "power_of_two" = some (some (.ref f3))) (l3 : K.lookup f3 = some ⟨oc3, od3, .func (PySem.W.fnOf "power_of_two" "power_of_two" (defArgs st_power_of_two) (defBody st_power_of_two) (defScope st_power_of_two) .none kV3 dc3 pm3 an3 cd3 ct3), sl3⟩) (c3 : PySem.W.codeIn K cd3 "power_of_two" = true) (k3 : PySem.W.keepIn K (.ref f3) = true)
    (a4 : PySem.W.nsIn K mainGlobals "is_word" = some (some (.ref f4))) (l4 : K.lookup f4 = some ⟨oc4, od4, .func (PySem.W.fnOf "is_word" "is_word" (defArgs st_is_word) (defBody st_is_word) (defScope st_is_word) .none kV4 dc4 pm4 an4 cd4 ct4), sl4⟩) (c4 : PySem.W.codeIn K cd4 "is_word" = true) (k4 : PySem.W.keepIn K (.ref f4) = true)
    (a5 : PySem.W.nsIn K mainGlobals "check_word" = some (some (.ref f5))) (l5 : K.lookup f5 = some ⟨oc5, od5, .func (PySem.W.fnOf "check_word" "check_word" (defArgs st_check_word) (defBody st_check_word) (defScope st_check_word) .none kV5 dc5 pm5 an5 cd5 ct5), sl5⟩) (c5 : PySem.W.codeIn K cd5 "check_word" = true) (k5 : PySem.W.keepIn K (.ref f5) = true)
    (a6 : PySem.W.nsIn K mainGlobals "is_width" = some (some (.ref f6))) (l6 : K.lookup f6 = some ⟨oc6, od6, .func (PySem.W.fnOf "is_width" "is_width" (defArgs st_is_width) (defBody st_is_width) (defScope st_is_width) .none kV6 dc6 pm6 an6 cd6 ct6), sl6⟩) (c6 : PySem.W.codeIn K cd6 "is_width" = true) (k6 : PySem.W.keepIn K (.ref f6) = true)
    (a7 : PySem.W.nsIn K mainGlobals "check_width" = some (some (.ref f7))) (l7 : K.lookup f7 = some ⟨oc7, od7, .func (PySem.W.fnOf "check_width" "check_width" (defArgs st_check_width) (defBody st_check_width) (defScope st_check_width) .none kV7 dc7 pm7 an7 cd7 ct7), sl7⟩) (c7 : PySem.W.codeIn K cd7 "check_width" = true) (k7 : PySem.W.keepIn K (.ref f7) = true)
    (a8 : PySem.W.nsIn K mainGlobals "bits_of" = some (some (.ref f8))) (l8 : K.lookup f8 = some ⟨oc8, od8, .func (PySem.W.fnOf "bits_of" "bits_of" (defArgs st_bits_of) (defBody st_bits_of) (defScope st_bits_of) .none kV8 dc8 pm8 an8 cd8 ct8), sl8⟩) (c8 : PySem.W.codeIn K cd8 "bits_of" = true) (k8 : PySem.W.keepIn K (.ref f8) = true)
    (a9 : PySem.W.nsIn K mainGlobals "word_of_bits" = some (some (.ref f9))) (l9 : K.lookup f9 = some ⟨oc9, od9, .func (PySem.W.fnOf "word_of_bits" "word_of_bits" (defArgs st_word_of_bits) (defBody st_word_of_bits) (defScope st_word_of_bits) .none kV9 dc9 pm9 an9 cd9 ct9), sl9⟩) (c9 : PySem.W.codeIn K cd9 "word_of_bits" = true) (k9 : PySem.W.keepIn K (.ref f9) = true)
    (a10 : PySem.W.nsIn K mainGlobals "_law_two" = some (some (.ref f10))) (l10 : K.lookup f10 = some ⟨oc10, od10, .func (PySem.W.fnOf "_law_two" "_law_two" (defArgs st__law_two) (defBody st__law_two) (defScope st__law_two) .none kV10 dc10 pm10 an10 cd10 ct10), sl10⟩) (c10 : PySem.W.codeIn K cd10 "_law_two" = true) (k10 : PySem.W.keepIn K (.ref f10) = true)
    (a11 : PySem.W.nsIn K mainGlobals "_law_hash" = some (some (.ref f11))) (l11 : K.lookup f11 = some ⟨oc11, od11, .func (PySem.W.fnOf "_law_hash" "_law_hash" (defArgs st__law_hash) (defBody st__law_hash) (defScope st__law_hash) .none kV11 dc11 pm11 an11 cd11 ct11), sl11⟩) (c11 : PySem.W.codeIn K cd11 "_law_hash" = true) (k11 : PySem.W.keepIn K (.ref f11) = true)
    (a12 : PySem.W.nsIn K mainGlobals "_law_random" = some (some (.ref f12))) (l12 : K.lookup f12 = some ⟨oc12, od12, .func (PySem.W.fnOf "_law_random" "_law_random" (defArgs st__law_random) (defBody st__law_random) (defScope st__law_random) .none kV12 dc12 pm12 an12 cd12 ct12), sl12⟩) (c12 : PySem.W.codeIn K cd12 "_law_random" = true) (k12 : PySem.W.keepIn K (.ref f12) = true)
    (a13 : PySem.W.nsIn K mainGlobals "_law_right" = some (some (.ref f13))) (l13 : K.lookup f13 = some ⟨oc13, od13, .func (PySem.W.fnOf "_law_right" "_law_right" (defArgs st__law_right) (defBody st__law_right) (defScope st__law_right) .none kV13 dc13 pm13 an13 cd13 ct13), sl13⟩) (c13 : PySem.W.codeIn K cd13 "_law_right" = true) (k13 : PySem.W.keepIn K (.ref f13) = true)
    (a14 : PySem.W.nsIn K mainGlobals "_law_cell" = some (some (.ref f14))) (l14 : K.lookup f14 = some ⟨oc14, od14, .func (PySem.W.fnOf "_law_cell" "_law_cell" (defArgs st__law_cell) (defBody st__law_cell) (defScope st__law_cell) .none kV14 dc14 pm14 an14 cd14 ct14), sl14⟩) (c14 : PySem.W.codeIn K cd14 "_law_cell" = true) (k14 : PySem.W.keepIn K (.ref f14) = true)
    (a15 : PySem.W.nsIn K mainGlobals "_law_generator" = some (some (.ref f15))) (l15 : K.lookup f15 = some ⟨oc15, od15, .func (PySem.W.fnOf "_law_generator" "_law_generator" (defArgs st__law_generator) (defBody st__law_generator) (defScope st__law_generator) .none kV15 dc15 pm15 an15 cd15 ct15), sl15⟩) (c15 : PySem.W.codeIn K cd15 "_law_generator" = true) (k15 : PySem.W.keepIn K (.ref f15) = true)
    (a16 : PySem.W.nsIn K mainGlobals "law" = some (some (.ref f16))) (l16 : K.lookup f16 = some ⟨oc16, od16, .func (PySem.W.fnOf "law" "law" (defArgs st_law) (defBody st_law) (defScope st_law) .none kV16 dc16 pm16 an16 cd16 ct16), sl16⟩) (c16 : PySem.W.codeIn K cd16 "law" = true) (k16 : PySem.W.keepIn K (.ref f16) = true)
    (n_bool : PySem.W.nsIn K mainGlobals "bool" = some none)
    (n_enumerate : PySem.W.nsIn K mainGlobals "enumerate" = some none)
    (n_int : PySem.W.nsIn K mainGlobals "int" = some none)
    (n_isinstance : PySem.W.nsIn K mainGlobals "isinstance" = some none)
    (n_len : PySem.W.nsIn K mainGlobals "len" = some none)
    (n_list : PySem.W.nsIn K mainGlobals "list" = some none)
    (n_max : PySem.W.nsIn K mainGlobals "max" = some none)
    (n_range : PySem.W.nsIn K mainGlobals "range" = some none)
    (n_repr : PySem.W.nsIn K mainGlobals "repr" = some none)
    (n_sum : PySem.W.nsIn K mainGlobals "sum" = some none)
    (g_MOST_BITS : PySem.W.nsIn K mainGlobals "MOST_BITS" = some (some (.int 64 t_MOST_BITS)))
    (g_MOST_WIDTH : PySem.W.nsIn K mainGlobals "MOST_WIDTH" = some (some (.int 64 t_MOST_WIDTH))) :
    ∃ fd : FuncData, (∀ (s : Shared) (v : Value), BindsTo s fd ⟨[v], []⟩ [("_law_script", v)]) ∧ ∀ base : Heap, K.In base → base.Ns mainGlobals mg → FnG l.prog w K mg base 7 fa fd ["_law_script"] (spF K .rd 0 F_law) := by
  have e := hfa.symm.trans (PySem.W.mg_of X G a16)
  cases e
  have F0 := fun_mk (st := st_bit_of) l0 c0 k0
  have b0 := F0.binds (ps := ["word", "place"]) fun _ _ _ _ _ _ us hl => match us, hl with | [_, _], _ => rfl
  have F1 := fun_mk (st := st_is_whole) l1 c1 k1
  have b1 := F1.binds (ps := ["value"]) fun _ _ _ _ _ _ us hl => match us, hl with | [_], _ => rfl
  have F2 := fun_mk (st := st_is_count) l2 c2 k2
  have b2 := F2.binds (ps := ["value"]) fun _ _ _ _ _ _ us hl => match us, hl with | [_], _ => rfl
  have F3 := fun_mk (st := st_power_of_two) l3 c3 k3
  have b3 := F3.binds (ps := ["many"]) fun _ _ _ _ _ _ us hl => match us, hl with | [_], _ => rfl
  have F4 := fun_mk (st := st_is_word) l4 c4 k4
  have b4 := F4.binds (ps := ["width", "value"]) fun _ _ _ _ _ _ us hl => match us, hl with | [_, _], _ => rfl
  have F5 := fun_mk (st := st_check_word) l5 c5 k5
  have b5 := F5.binds (ps := ["width", "word"]) fun _ _ _ _ _ _ us hl => match us, hl with | [_, _], _ => rfl
  have F6 := fun_mk (st := st_is_width) l6 c6 k6
  have b6 := F6.binds (ps := ["value"]) fun _ _ _ _ _ _ us hl => match us, hl with | [_], _ => rfl
  have F7 := fun_mk (st := st_check_width) l7 c7 k7
  have b7 := F7.binds (ps := ["width"]) fun _ _ _ _ _ _ us hl => match us, hl with | [_], _ => rfl
  have F8 := fun_mk (st := st_bits_of) l8 c8 k8
  have b8 := F8.binds (ps := ["width", "word"]) fun _ _ _ _ _ _ us hl => match us, hl with | [_, _], _ => rfl
  have F9 := fun_mk (st := st_word_of_bits) l9 c9 k9
  have b9 := F9.binds (ps := ["bits"]) fun _ _ _ _ _ _ us hl => match us, hl with | [_], _ => rfl
  have F10 := fun_mk (st := st__law_two) l10 c10 k10
  have b10 := F10.binds (ps := ["_law_many"]) fun _ _ _ _ _ _ us hl => match us, hl with | [_], _ => rfl
  have F11 := fun_mk (st := st__law_hash) l11 c11 k11
  have b11 := F11.binds (ps := ["_law_seed", "_law_index"]) fun _ _ _ _ _ _ us hl => match us, hl with | [_, _], _ => rfl
  have F12 := fun_mk (st := st__law_random) l12 c12 k12
  have b12 := F12.binds (ps := ["_law_generator_here", "_law_bound"]) fun _ _ _ _ _ _ us hl => match us, hl with | [_, _], _ => rfl
  have F13 := fun_mk (st := st__law_right) l13 c13 k13
  have b13 := F13.binds (ps := ["_law_generator_here"]) fun _ _ _ _ _ _ us hl => match us, hl with | [_], _ => rfl
  have F14 := fun_mk (st := st__law_cell) l14 c14 k14
  have b14 := F14.binds (ps := ["_law_script", "_law_index"]) fun _ _ _ _ _ _ us hl => match us, hl with | [_, _], _ => rfl
  have F15 := fun_mk (st := st__law_generator) l15 c15 k15
  have b15 := F15.binds (ps := ["_law_script", "_law_index"]) fun _ _ _ _ _ _ us hl => match us, hl with | [_, _], _ => rfl
  have F16 := fun_mk (st := st_law) l16 c16 k16
  have b16 := F16.binds (ps := ["_law_script"]) fun _ _ _ _ _ _ us hl => match us, hl with | [_], _ => rfl
  have T : { T : TX K mg // T.a_law = fa ∧ T.d_law = PySem.W.fnOf "law" "law" (defArgs st_law) (defBody st_law) (defScope st_law) .none kV16 dc16 pm16 an16 cd16 ct16 } := ⟨{ a_bit_of := _, d_bit_of := _, F_bit_of := F0, b_bit_of := b0, m_bit_of := PySem.W.mg_of X G a0, a_is_whole := _, d_is_whole := _, F_is_whole := F1, b_is_whole := b1, m_is_whole := PySem.W.mg_of X G a1, a_is_count := _, d_is_count := _, F_is_count := F2, b_is_count := b2, m_is_count := PySem.W.mg_of X G a2, a_power_of_two := _, d_power_of_two := _, F_power_of_two := F3, b_power_of_two := b3, m_power_of_two := PySem.W.mg_of X G a3, a_is_word := _, d_is_word := _, F_is_word := F4, b_is_word := b4, m_is_word := PySem.W.mg_of X G a4, a_check_word := _, d_check_word := _, F_check_word := F5, b_check_word := b5, m_check_word := PySem.W.mg_of X G a5, a_is_width := _, d_is_width := _, F_is_width := F6, b_is_width := b6, m_is_width := PySem.W.mg_of X G a6, a_check_width := _, d_check_width := _, F_check_width := F7, b_check_width := b7, m_check_width := PySem.W.mg_of X G a7, a_bits_of := _, d_bits_of := _, F_bits_of := F8, b_bits_of := b8, m_bits_of := PySem.W.mg_of X G a8, k_bits_of_word_width := ⟨fun s ws _ hl => match ws, hl with | [_, _], _ => .of_eq rfl⟩, a_word_of_bits := _, d_word_of_bits := _, F_word_of_bits := F9, b_word_of_bits := b9, m_word_of_bits := PySem.W.mg_of X G a9, k_word_of_bits_bits := ⟨fun s ws _ hl => match ws, hl with | [_], _ => .of_eq rfl⟩, a__law_two := _, d__law_two := _, F__law_two := F10, b__law_two := b10, m__law_two := PySem.W.mg_of X G a10, a__law_hash := _, d__law_hash := _, F__law_hash := F11, b__law_hash := b11, m__law_hash := PySem.W.mg_of X G a11, a__law_random := _, d__law_random := _, F__law_random := F12, b__law_random := b12, m__law_random := PySem.W.mg_of X G a12, a__law_right := _, d__law_right := _, F__law_right := F13, b__law_right := b13, m__law_right := PySem.W.mg_of X G a13, a__law_cell := _, d__law_cell := _, F__law_cell := F14, b__law_cell := b14, m__law_cell := PySem.W.mg_of X G a14, a__law_generator := _, d__law_generator := _, F__law_generator := F15, b__law_generator := b15, m__law_generator := PySem.W.mg_of X G a15, a_law := _, d_law := _, F_law := F16, b_law := b16, m_law := PySem.W.mg_of X G a16, n_bool := PySem.W.mg_none_of X G n_bool, n_enumerate := PySem.W.mg_none_of X G n_enumerate, n_int := PySem.W.mg_none_of X G n_int, n_isinstance := PySem.W.mg_none_of X G n_isinstance, n_len := PySem.W.mg_none_of X G n_len, n_list := PySem.W.mg_none_of X G n_list, n_max := PySem.W.mg_none_of X G n_max, n_range := PySem.W.mg_none_of X G n_range, n_repr := PySem.W.mg_none_of X G n_repr, n_sum := PySem.W.mg_none_of X G n_sum, t_MOST_BITS := t_MOST_BITS, g_MOST_BITS := PySem.W.mg_of X G g_MOST_BITS, t_MOST_WIDTH := t_MOST_WIDTH, g_MOST_WIDTH := PySem.W.mg_of X G g_MOST_WIDTH }, rfl, rfl⟩
  obtain ⟨T, e1, e2⟩ := T
  refine ⟨T.d_law, fun s v => ?_, fun base _ _ => ?_⟩
  · rw [e2]
    exact .of_eq rfl
  · rw [← e1]
    exact ok_law T
end Toy
namespace Toy
open PySem PySem.Spec L2 Ev Ev.G
theorem eq_random : F__law_random = G.fRandom := rfl
theorem eq_generator : F__law_generator = G.fGenerator := rfl
/-! the bits of a word -/
def bits (n : Nat) (x : Int) : List Int := (List.range n).map fun k => x / 2 ^ k % 2
theorem whole_int {z : Int} : FV F_is_whole [] [.int z] fun r gs => r = ⟨.bool true, false, .sh⟩ := by
  refine fv_run ?_
  show SV u_is_whole [.val false (.int z)] _
  unfold u_is_whole
  simp only [we_lit, we_globL, we_var, we_varF, we_1, we_2, we_lst, we_tup, we_not, we_and, we_or, we_if, we_borIx, we_sl, wi_none, wi_some, we_lr1, we_lr2, we_call, we_call0, we_callB, we_callR, we_callK, we_callT, wipeE, restE, keepS, wt_yes, wt_tru, wt_boo, wt_not, wt_and, wt_or, wa_nil, wa_cons, wp_nil, wp_cons, wq_P, wq_S, wa_seq, wa_enum, wa_zip, wa_rng1, wa_rng2, ws_skip, ws_brk, ws_cont, ws_never, on_next, on_ret, on_brk, on_cont, ws_seq, ws_ret, ws_retN, ws_drop, ws_if, ws_set, ws_setB, ws_asg, ws_par, ws_for, wg_n, wg_t, wgs_nil, wgs_cons, ov_some, ov_none, ov_sr, ov_if, ov_st, ov_put_sh, ov_put_fr, intS_int, bolS_bool, seqS_l, seqS_t, lstS_l, lstF_fr, fAdd_ii, fAdd_ss, fAdd_ll, fAdd_tt, fI_ii, fIc_ii, fMul_ii, fMul_li, ov_fEq, ov_fNe, fCmp_ii, fIn_l, fNotIn_l, fNeg_i, ov_fIx_li, ov_fIx_ti, fSl_l, fSl_t, fLen_l, fLen_t, fLen_s, fInt_i, fInt_b, fAbs_i, fList_l, fList_t, fTuple_l, fTuple_t, fBits_i, ov_fRepr, fIsi_d, fIsN_n, isi_int_int, isi_int_bool, isi_int_str, isi_int_list, isi_int_tuple, isi_int_none, isi_bool_int, isi_bool_bool, isi_bool_str, isi_bool_list, isi_bool_tuple, isi_bool_none, isi_str_int, isi_str_bool, isi_str_str, isi_str_list, isi_str_tuple, isi_str_none, isi_list_int, isi_list_bool, isi_list_str, isi_list_list, isi_list_tuple, isi_list_none, isi_tuple_int, isi_tuple_bool, isi_tuple_str, isi_tuple_list, isi_tuple_tuple, isi_tuple_none, ok_sh, ok_fr, nkk_sh, nkk_fr, nkk_pk, frm_sh, frm_fr, frm_kk, sc_int, sc_bool, sc_str, sc_none, sc_list, sc_tuple, tru_bool, tru_int, tru_none, tru_list, tru_tuple, rd_val, rd_own, rd_ro, rf_val, rf_own, so_un, so_val, so_own, sg_un, sg_val, sg_own, sg_gen, nb_un, nb_val, nb_own, nb_ro, bo_bor, bo_gen, ro_ro, re_bor, re_gen, ov_backN, ov_backS, ov_lend, setV_own, setV_bor, setV_gen, adr_own, adr_bor, adr_gen, ws_setIx, ws_app, fMax2, fMin2, fSub, fFdiv, fMod, fPow, fShl, fShr, fAnd, fOr, fXor, fLt, fLe, fGt, fGe, List.getElem?_cons_zero, List.getElem?_cons_succ, List.set_cons_zero, List.set_cons_succ, List.length_cons, List.length_nil, List.all_cons, List.all_nil, List.isEmpty_cons, List.isEmpty_nil, List.filterMap_cons, List.filterMap_nil, Option.isSome_some, Bool.not_true, Bool.not_false, Bool.and_true, Bool.true_and, Bool.and_false, Bool.false_and, Bool.or_false, Bool.false_or, Bool.or_true, Bool.true_or, if_true, if_false, Bool.false_eq_true, true_and, and_true, false_and, and_false, Option.isSome_none, reduceCtorEq, decide_eq_true_eq, rv_ret, rv_next, ov_endN, ov_endR, ov_endB, refR_sh, refR_fr]
theorem count_int {z : Int} : FV F_is_count [] [.int z] fun r gs => r = ⟨.bool (decide (0 ≤ z)), false, .sh⟩ := by
  refine fv_run ?_
  show SV u_is_count [.val false (.int z)] _
  unfold u_is_count
  simp only [we_lit, we_globL, we_var, we_varF, we_1, we_2, we_lst, we_tup, we_not, we_and, we_or, we_if, we_borIx, we_sl, wi_none, wi_some, we_lr1, we_lr2, we_call, we_call0, we_callB, we_callR, we_callK, we_callT, wipeE, restE, keepS, wt_yes, wt_tru, wt_boo, wt_not, wt_and, wt_or, wa_nil, wa_cons, wp_nil, wp_cons, wq_P, wq_S, wa_seq, wa_enum, wa_zip, wa_rng1, wa_rng2, ws_skip, ws_brk, ws_cont, ws_never, on_next, on_ret, on_brk, on_cont, ws_seq, ws_ret, ws_retN, ws_drop, ws_if, ws_set, ws_setB, ws_asg, ws_par, ws_for, wg_n, wg_t, wgs_nil, wgs_cons, ov_some, ov_none, ov_sr, ov_if, ov_st, ov_put_sh, ov_put_fr, intS_int, bolS_bool, seqS_l, seqS_t, lstS_l, lstF_fr, fAdd_ii, fAdd_ss, fAdd_ll, fAdd_tt, fI_ii, fIc_ii, fMul_ii, fMul_li, ov_fEq, ov_fNe, fCmp_ii, fIn_l, fNotIn_l, fNeg_i, ov_fIx_li, ov_fIx_ti, fSl_l, fSl_t, fLen_l, fLen_t, fLen_s, fInt_i, fInt_b, fAbs_i, fList_l, fList_t, fTuple_l, fTuple_t, fBits_i, ov_fRepr, fIsi_d, fIsN_n, isi_int_int, isi_int_bool, isi_int_str, isi_int_list, isi_int_tuple, isi_int_none, isi_bool_int, isi_bool_bool, isi_bool_str, isi_bool_list, isi_bool_tuple, isi_bool_none, isi_str_int, isi_str_bool, isi_str_str, isi_str_list, isi_str_tuple, isi_str_none, isi_list_int, isi_list_bool, isi_list_str, isi_list_list, isi_list_tuple, isi_list_none, isi_tuple_int, isi_tuple_bool, isi_tuple_str, isi_tuple_list, isi_tuple_tuple, isi_tuple_none, ok_sh, ok_fr, nkk_sh, nkk_fr, nkk_pk, frm_sh, frm_fr, frm_kk, sc_int, sc_bool, sc_str, sc_none, sc_list, sc_tuple, tru_bool, tru_int, tru_none, tru_list, tru_tuple, rd_val, rd_own, rd_ro, rf_val, rf_own, so_un, so_val, so_own, sg_un, sg_val, sg_own, sg_gen, nb_un, nb_val, nb_own, nb_ro, bo_bor, bo_gen, ro_ro, re_bor, re_gen, ov_backN, ov_backS, ov_lend, setV_own, setV_bor, setV_gen, adr_own, adr_bor, adr_gen, ws_setIx, ws_app, fMax2, fMin2, fSub, fFdiv, fMod, fPow, fShl, fShr, fAnd, fOr, fXor, fLt, fLe, fGt, fGe, List.getElem?_cons_zero, List.getElem?_cons_succ, List.set_cons_zero, List.set_cons_succ, List.length_cons, List.length_nil, List.all_cons, List.all_nil, List.isEmpty_cons, List.isEmpty_nil, List.filterMap_cons, List.filterMap_nil, Option.isSome_some, Bool.not_true, Bool.not_false, Bool.and_true, Bool.true_and, Bool.and_false, Bool.false_and, Bool.or_false, Bool.false_or, Bool.or_true, Bool.true_or, if_true, if_false, Bool.false_eq_true, true_and, and_true, false_and, and_false, Option.isSome_none, reduceCtorEq, decide_eq_true_eq, rv_ret, rv_next, ov_endN, ov_endR, ov_endB, refR_sh, refR_fr]
  refine fv_mono whole_int ?_
  rintro r g rfl
  simp only [we_lit, we_globL, we_var, we_varF, we_1, we_2, we_lst, we_tup, we_not, we_and, we_or, we_if, we_borIx, we_sl, wi_none, wi_some, we_lr1, we_lr2, we_call, we_call0, we_callB, we_callR, we_callK, we_callT, wipeE, restE, keepS, wt_yes, wt_tru, wt_boo, wt_not, wt_and, wt_or, wa_nil, wa_cons, wp_nil, wp_cons, wq_P, wq_S, wa_seq, wa_enum, wa_zip, wa_rng1, wa_rng2, ws_skip, ws_brk, ws_cont, ws_never, on_next, on_ret, on_brk, on_cont, ws_seq, ws_ret, ws_retN, ws_drop, ws_if, ws_set, ws_setB, ws_asg, ws_par, ws_for, wg_n, wg_t, wgs_nil, wgs_cons, ov_some, ov_none, ov_sr, ov_if, ov_st, ov_put_sh, ov_put_fr, intS_int, bolS_bool, seqS_l, seqS_t, lstS_l, lstF_fr, fAdd_ii, fAdd_ss, fAdd_ll, fAdd_tt, fI_ii, fIc_ii, fMul_ii, fMul_li, ov_fEq, ov_fNe, fCmp_ii, fIn_l, fNotIn_l, fNeg_i, ov_fIx_li, ov_fIx_ti, fSl_l, fSl_t, fLen_l, fLen_t, fLen_s, fInt_i, fInt_b, fAbs_i, fList_l, fList_t, fTuple_l, fTuple_t, fBits_i, ov_fRepr, fIsi_d, fIsN_n, isi_int_int, isi_int_bool, isi_int_str, isi_int_list, isi_int_tuple, isi_int_none, isi_bool_int, isi_bool_bool, isi_bool_str, isi_bool_list, isi_bool_tuple, isi_bool_none, isi_str_int, isi_str_bool, isi_str_str, isi_str_list, isi_str_tuple, isi_str_none, isi_list_int, isi_list_bool, isi_list_str, isi_list_list, isi_list_tuple, isi_list_none, isi_tuple_int, isi_tuple_bool, isi_tuple_str, isi_tuple_list, isi_tuple_tuple, isi_tuple_none, ok_sh, ok_fr, nkk_sh, nkk_fr, nkk_pk, frm_sh, frm_fr, frm_kk, sc_int, sc_bool, sc_str, sc_none, sc_list, sc_tuple, tru_bool, tru_int, tru_none, tru_list, tru_tuple, rd_val, rd_own, rd_ro, rf_val, rf_own, so_un, so_val, so_own, sg_un, sg_val, sg_own, sg_gen, nb_un, nb_val, nb_own, nb_ro, bo_bor, bo_gen, ro_ro, re_bor, re_gen, ov_backN, ov_backS, ov_lend, setV_own, setV_bor, setV_gen, adr_own, adr_bor, adr_gen, ws_setIx, ws_app, fMax2, fMin2, fSub, fFdiv, fMod, fPow, fShl, fShr, fAnd, fOr, fXor, fLt, fLe, fGt, fGe, List.getElem?_cons_zero, List.getElem?_cons_succ, List.set_cons_zero, List.set_cons_succ, List.length_cons, List.length_nil, List.all_cons, List.all_nil, List.isEmpty_cons, List.isEmpty_nil, List.filterMap_cons, List.filterMap_nil, Option.isSome_some, Bool.not_true, Bool.not_false, Bool.and_true, Bool.true_and, Bool.and_false, Bool.false_and, Bool.or_false, Bool.false_or, Bool.or_true, Bool.true_or, if_true, if_false, Bool.false_eq_true, true_and, and_true, false_and, and_false, Option.isSome_none, reduceCtorEq, decide_eq_true_eq, rv_ret, rv_next, ov_endN, ov_endR, ov_endB, refR_sh, refR_fr]
theorem width_int {z : Int} : FV F_is_width [] [.int z] fun r gs => r = ⟨.bool (decide (0 ≤ z ∧ z ≤ 64)), false, .sh⟩ := by
  refine fv_run ?_
  show SV u_is_width [.val false (.int z)] _
  unfold u_is_width
  simp only [we_lit, we_globL, we_var, we_varF, we_1, we_2, we_lst, we_tup, we_not, we_and, we_or, we_if, we_borIx, we_sl, wi_none, wi_some, we_lr1, we_lr2, we_call, we_call0, we_callB, we_callR, we_callK, we_callT, wipeE, restE, keepS, wt_yes, wt_tru, wt_boo, wt_not, wt_and, wt_or, wa_nil, wa_cons, wp_nil, wp_cons, wq_P, wq_S, wa_seq, wa_enum, wa_zip, wa_rng1, wa_rng2, ws_skip, ws_brk, ws_cont, ws_never, on_next, on_ret, on_brk, on_cont, ws_seq, ws_ret, ws_retN, ws_drop, ws_if, ws_set, ws_setB, ws_asg, ws_par, ws_for, wg_n, wg_t, wgs_nil, wgs_cons, ov_some, ov_none, ov_sr, ov_if, ov_st, ov_put_sh, ov_put_fr, intS_int, bolS_bool, seqS_l, seqS_t, lstS_l, lstF_fr, fAdd_ii, fAdd_ss, fAdd_ll, fAdd_tt, fI_ii, fIc_ii, fMul_ii, fMul_li, ov_fEq, ov_fNe, fCmp_ii, fIn_l, fNotIn_l, fNeg_i, ov_fIx_li, ov_fIx_ti, fSl_l, fSl_t, fLen_l, fLen_t, fLen_s, fInt_i, fInt_b, fAbs_i, fList_l, fList_t, fTuple_l, fTuple_t, fBits_i, ov_fRepr, fIsi_d, fIsN_n, isi_int_int, isi_int_bool, isi_int_str, isi_int_list, isi_int_tuple, isi_int_none, isi_bool_int, isi_bool_bool, isi_bool_str, isi_bool_list, isi_bool_tuple, isi_bool_none, isi_str_int, isi_str_bool, isi_str_str, isi_str_list, isi_str_tuple, isi_str_none, isi_list_int, isi_list_bool, isi_list_str, isi_list_list, isi_list_tuple, isi_list_none, isi_tuple_int, isi_tuple_bool, isi_tuple_str, isi_tuple_list, isi_tuple_tuple, isi_tuple_none, ok_sh, ok_fr, nkk_sh, nkk_fr, nkk_pk, frm_sh, frm_fr, frm_kk, sc_int, sc_bool, sc_str, sc_none, sc_list, sc_tuple, tru_bool, tru_int, tru_none, tru_list, tru_tuple, rd_val, rd_own, rd_ro, rf_val, rf_own, so_un, so_val, so_own, sg_un, sg_val, sg_own, sg_gen, nb_un, nb_val, nb_own, nb_ro, bo_bor, bo_gen, ro_ro, re_bor, re_gen, ov_backN, ov_backS, ov_lend, setV_own, setV_bor, setV_gen, adr_own, adr_bor, adr_gen, ws_setIx, ws_app, fMax2, fMin2, fSub, fFdiv, fMod, fPow, fShl, fShr, fAnd, fOr, fXor, fLt, fLe, fGt, fGe, List.getElem?_cons_zero, List.getElem?_cons_succ, List.set_cons_zero, List.set_cons_succ, List.length_cons, List.length_nil, List.all_cons, List.all_nil, List.isEmpty_cons, List.isEmpty_nil, List.filterMap_cons, List.filterMap_nil, Option.isSome_some, Bool.not_true, Bool.not_false, Bool.and_true, Bool.true_and, Bool.and_false, Bool.false_and, Bool.or_false, Bool.false_or, Bool.or_true, Bool.true_or, if_true, if_false, Bool.false_eq_true, true_and, and_true, false_and, and_false, Option.isSome_none, reduceCtorEq, decide_eq_true_eq, rv_ret, rv_next, ov_endN, ov_endR, ov_endB, refR_sh, refR_fr]
  refine fv_mono count_int ?_
  rintro r g rfl
  simp only [we_lit, we_globL, we_var, we_varF, we_1, we_2, we_lst, we_tup, we_not, we_and, we_or, we_if, we_borIx, we_sl, wi_none, wi_some, we_lr1, we_lr2, we_call, we_call0, we_callB, we_callR, we_callK, we_callT, wipeE, restE, keepS, wt_yes, wt_tru, wt_boo, wt_not, wt_and, wt_or, wa_nil, wa_cons, wp_nil, wp_cons, wq_P, wq_S, wa_seq, wa_enum, wa_zip, wa_rng1, wa_rng2, ws_skip, ws_brk, ws_cont, ws_never, on_next, on_ret, on_brk, on_cont, ws_seq, ws_ret, ws_retN, ws_drop, ws_if, ws_set, ws_setB, ws_asg, ws_par, ws_for, wg_n, wg_t, wgs_nil, wgs_cons, ov_some, ov_none, ov_sr, ov_if, ov_st, ov_put_sh, ov_put_fr, intS_int, bolS_bool, seqS_l, seqS_t, lstS_l, lstF_fr, fAdd_ii, fAdd_ss, fAdd_ll, fAdd_tt, fI_ii, fIc_ii, fMul_ii, fMul_li, ov_fEq, ov_fNe, fCmp_ii, fIn_l, fNotIn_l, fNeg_i, ov_fIx_li, ov_fIx_ti, fSl_l, fSl_t, fLen_l, fLen_t, fLen_s, fInt_i, fInt_b, fAbs_i, fList_l, fList_t, fTuple_l, fTuple_t, fBits_i, ov_fRepr, fIsi_d, fIsN_n, isi_int_int, isi_int_bool, isi_int_str, isi_int_list, isi_int_tuple, isi_int_none, isi_bool_int, isi_bool_bool, isi_bool_str, isi_bool_list, isi_bool_tuple, isi_bool_none, isi_str_int, isi_str_bool, isi_str_str, isi_str_list, isi_str_tuple, isi_str_none, isi_list_int, isi_list_bool, isi_list_str, isi_list_list, isi_list_tuple, isi_list_none, isi_tuple_int, isi_tuple_bool, isi_tuple_str, isi_tuple_list, isi_tuple_tuple, isi_tuple_none, ok_sh, ok_fr, nkk_sh, nkk_fr, nkk_pk, frm_sh, frm_fr, frm_kk, sc_int, sc_bool, sc_str, sc_none, sc_list, sc_tuple, tru_bool, tru_int, tru_none, tru_list, tru_tuple, rd_val, rd_own, rd_ro, rf_val, rf_own, so_un, so_val, so_own, sg_un, sg_val, sg_own, sg_gen, nb_un, nb_val, nb_own, nb_ro, bo_bor, bo_gen, ro_ro, re_bor, re_gen, ov_backN, ov_backS, ov_lend, setV_own, setV_bor, setV_gen, adr_own, adr_bor, adr_gen, ws_setIx, ws_app, fMax2, fMin2, fSub, fFdiv, fMod, fPow, fShl, fShr, fAnd, fOr, fXor, fLt, fLe, fGt, fGe, List.getElem?_cons_zero, List.getElem?_cons_succ, List.set_cons_zero, List.set_cons_succ, List.length_cons, List.length_nil, List.all_cons, List.all_nil, List.isEmpty_cons, List.isEmpty_nil, List.filterMap_cons, List.filterMap_nil, Option.isSome_some, Bool.not_true, Bool.not_false, Bool.and_true, Bool.true_and, Bool.and_false, Bool.false_and, Bool.or_false, Bool.false_or, Bool.or_true, Bool.true_or, if_true, if_false, Bool.false_eq_true, true_and, and_true, false_and, and_false, Option.isSome_none, reduceCtorEq, decide_eq_true_eq, rv_ret, rv_next, ov_endN, ov_endR, ov_endB, refR_sh, refR_fr]
  by_cases h : 0 ≤ z
  · simp [h]
  · simp [h]
theorem pow_int {z : Int} (h0 : 0 ≤ z) (h1 : z ≤ 1000) : FV F_power_of_two [] [.int z] fun r gs => r = ⟨.int (2 ^ z.toNat), false, .sh⟩ := by
  refine fv_run ?_
  show SV u_power_of_two [.val false (.int z)] _
  unfold u_power_of_two
  simp only [we_lit, we_globL, we_var, we_varF, we_1, we_2, we_lst, we_tup, we_not, we_and, we_or, we_if, we_borIx, we_sl, wi_none, wi_some, we_lr1, we_lr2, we_call, we_call0, we_callB, we_callR, we_callK, we_callT, wipeE, restE, keepS, wt_yes, wt_tru, wt_boo, wt_not, wt_and, wt_or, wa_nil, wa_cons, wp_nil, wp_cons, wq_P, wq_S, wa_seq, wa_enum, wa_zip, wa_rng1, wa_rng2, ws_skip, ws_brk, ws_cont, ws_never, on_next, on_ret, on_brk, on_cont, ws_seq, ws_ret, ws_retN, ws_drop, ws_if, ws_set, ws_setB, ws_asg, ws_par, ws_for, wg_n, wg_t, wgs_nil, wgs_cons, ov_some, ov_none, ov_sr, ov_if, ov_st, ov_put_sh, ov_put_fr, intS_int, bolS_bool, seqS_l, seqS_t, lstS_l, lstF_fr, fAdd_ii, fAdd_ss, fAdd_ll, fAdd_tt, fI_ii, fIc_ii, fMul_ii, fMul_li, ov_fEq, ov_fNe, fCmp_ii, fIn_l, fNotIn_l, fNeg_i, ov_fIx_li, ov_fIx_ti, fSl_l, fSl_t, fLen_l, fLen_t, fLen_s, fInt_i, fInt_b, fAbs_i, fList_l, fList_t, fTuple_l, fTuple_t, fBits_i, ov_fRepr, fIsi_d, fIsN_n, isi_int_int, isi_int_bool, isi_int_str, isi_int_list, isi_int_tuple, isi_int_none, isi_bool_int, isi_bool_bool, isi_bool_str, isi_bool_list, isi_bool_tuple, isi_bool_none, isi_str_int, isi_str_bool, isi_str_str, isi_str_list, isi_str_tuple, isi_str_none, isi_list_int, isi_list_bool, isi_list_str, isi_list_list, isi_list_tuple, isi_list_none, isi_tuple_int, isi_tuple_bool, isi_tuple_str, isi_tuple_list, isi_tuple_tuple, isi_tuple_none, ok_sh, ok_fr, nkk_sh, nkk_fr, nkk_pk, frm_sh, frm_fr, frm_kk, sc_int, sc_bool, sc_str, sc_none, sc_list, sc_tuple, tru_bool, tru_int, tru_none, tru_list, tru_tuple, rd_val, rd_own, rd_ro, rf_val, rf_own, so_un, so_val, so_own, sg_un, sg_val, sg_own, sg_gen, nb_un, nb_val, nb_own, nb_ro, bo_bor, bo_gen, ro_ro, re_bor, re_gen, ov_backN, ov_backS, ov_lend, setV_own, setV_bor, setV_gen, adr_own, adr_bor, adr_gen, ws_setIx, ws_app, fMax2, fMin2, fSub, fFdiv, fMod, fPow, fShl, fShr, fAnd, fOr, fXor, fLt, fLe, fGt, fGe, List.getElem?_cons_zero, List.getElem?_cons_succ, List.set_cons_zero, List.set_cons_succ, List.length_cons, List.length_nil, List.all_cons, List.all_nil, List.isEmpty_cons, List.isEmpty_nil, List.filterMap_cons, List.filterMap_nil, Option.isSome_some, Bool.not_true, Bool.not_false, Bool.and_true, Bool.true_and, Bool.and_false, Bool.false_and, Bool.or_false, Bool.false_or, Bool.or_true, Bool.true_or, if_true, if_false, Bool.false_eq_true, true_and, and_true, false_and, and_false, Option.isSome_none, reduceCtorEq, decide_eq_true_eq, rv_ret, rv_next, ov_endN, ov_endR, ov_endB, refR_sh, refR_fr, Int.one_mul]
  exact ⟨h0, by have : Builtin.Int.intBits 1 = 1 := by decide
                rw [this]; omega⟩
theorem word_int {w z : Int} (h0 : 0 ≤ w) (h1 : w ≤ 1000) : FV F_is_word [] [.int w, .int z] fun r gs => r = ⟨.bool (decide (0 ≤ z ∧ z < 2 ^ w.toNat)), false, .sh⟩ := by
  refine fv_run ?_
  show SV u_is_word [.val false (.int w), .val false (.int z)] _
  unfold u_is_word
  simp only [we_lit, we_globL, we_var, we_varF, we_1, we_2, we_lst, we_tup, we_not, we_and, we_or, we_if, we_borIx, we_sl, wi_none, wi_some, we_lr1, we_lr2, we_call, we_call0, we_callB, we_callR, we_callK, we_callT, wipeE, restE, keepS, wt_yes, wt_tru, wt_boo, wt_not, wt_and, wt_or, wa_nil, wa_cons, wp_nil, wp_cons, wq_P, wq_S, wa_seq, wa_enum, wa_zip, wa_rng1, wa_rng2, ws_skip, ws_brk, ws_cont, ws_never, on_next, on_ret, on_brk, on_cont, ws_seq, ws_ret, ws_retN, ws_drop, ws_if, ws_set, ws_setB, ws_asg, ws_par, ws_for, wg_n, wg_t, wgs_nil, wgs_cons, ov_some, ov_none, ov_sr, ov_if, ov_st, ov_put_sh, ov_put_fr, intS_int, bolS_bool, seqS_l, seqS_t, lstS_l, lstF_fr, fAdd_ii, fAdd_ss, fAdd_ll, fAdd_tt, fI_ii, fIc_ii, fMul_ii, fMul_li, ov_fEq, ov_fNe, fCmp_ii, fIn_l, fNotIn_l, fNeg_i, ov_fIx_li, ov_fIx_ti, fSl_l, fSl_t, fLen_l, fLen_t, fLen_s, fInt_i, fInt_b, fAbs_i, fList_l, fList_t, fTuple_l, fTuple_t, fBits_i, ov_fRepr, fIsi_d, fIsN_n, isi_int_int, isi_int_bool, isi_int_str, isi_int_list, isi_int_tuple, isi_int_none, isi_bool_int, isi_bool_bool, isi_bool_str, isi_bool_list, isi_bool_tuple, isi_bool_none, isi_str_int, isi_str_bool, isi_str_str, isi_str_list, isi_str_tuple, isi_str_none, isi_list_int, isi_list_bool, isi_list_str, isi_list_list, isi_list_tuple, isi_list_none, isi_tuple_int, isi_tuple_bool, isi_tuple_str, isi_tuple_list, isi_tuple_tuple, isi_tuple_none, ok_sh, ok_fr, nkk_sh, nkk_fr, nkk_pk, frm_sh, frm_fr, frm_kk, sc_int, sc_bool, sc_str, sc_none, sc_list, sc_tuple, tru_bool, tru_int, tru_none, tru_list, tru_tuple, rd_val, rd_own, rd_ro, rf_val, rf_own, so_un, so_val, so_own, sg_un, sg_val, sg_own, sg_gen, nb_un, nb_val, nb_own, nb_ro, bo_bor, bo_gen, ro_ro, re_bor, re_gen, ov_backN, ov_backS, ov_lend, setV_own, setV_bor, setV_gen, adr_own, adr_bor, adr_gen, ws_setIx, ws_app, fMax2, fMin2, fSub, fFdiv, fMod, fPow, fShl, fShr, fAnd, fOr, fXor, fLt, fLe, fGt, fGe, List.getElem?_cons_zero, List.getElem?_cons_succ, List.set_cons_zero, List.set_cons_succ, List.length_cons, List.length_nil, List.all_cons, List.all_nil, List.isEmpty_cons, List.isEmpty_nil, List.filterMap_cons, List.filterMap_nil, Option.isSome_some, Bool.not_true, Bool.not_false, Bool.and_true, Bool.true_and, Bool.and_false, Bool.false_and, Bool.or_false, Bool.false_or, Bool.or_true, Bool.true_or, if_true, if_false, Bool.false_eq_true, true_and, and_true, false_and, and_false, Option.isSome_none, reduceCtorEq, decide_eq_true_eq, rv_ret, rv_next, ov_endN, ov_endR, ov_endB, refR_sh, refR_fr]
  refine fv_mono count_int ?_
  rintro r g rfl
  simp only [we_lit, we_globL, we_var, we_varF, we_1, we_2, we_lst, we_tup, we_not, we_and, we_or, we_if, we_borIx, we_sl, wi_none, wi_some, we_lr1, we_lr2, we_call, we_call0, we_callB, we_callR, we_callK, we_callT, wipeE, restE, keepS, wt_yes, wt_tru, wt_boo, wt_not, wt_and, wt_or, wa_nil, wa_cons, wp_nil, wp_cons, wq_P, wq_S, wa_seq, wa_enum, wa_zip, wa_rng1, wa_rng2, ws_skip, ws_brk, ws_cont, ws_never, on_next, on_ret, on_brk, on_cont, ws_seq, ws_ret, ws_retN, ws_drop, ws_if, ws_set, ws_setB, ws_asg, ws_par, ws_for, wg_n, wg_t, wgs_nil, wgs_cons, ov_some, ov_none, ov_sr, ov_if, ov_st, ov_put_sh, ov_put_fr, intS_int, bolS_bool, seqS_l, seqS_t, lstS_l, lstF_fr, fAdd_ii, fAdd_ss, fAdd_ll, fAdd_tt, fI_ii, fIc_ii, fMul_ii, fMul_li, ov_fEq, ov_fNe, fCmp_ii, fIn_l, fNotIn_l, fNeg_i, ov_fIx_li, ov_fIx_ti, fSl_l, fSl_t, fLen_l, fLen_t, fLen_s, fInt_i, fInt_b, fAbs_i, fList_l, fList_t, fTuple_l, fTuple_t, fBits_i, ov_fRepr, fIsi_d, fIsN_n, isi_int_int, isi_int_bool, isi_int_str, isi_int_list, isi_int_tuple, isi_int_none, isi_bool_int, isi_bool_bool, isi_bool_str, isi_bool_list, isi_bool_tuple, isi_bool_none, isi_str_int, isi_str_bool, isi_str_str, isi_str_list, isi_str_tuple, isi_str_none, isi_list_int, isi_list_bool, isi_list_str, isi_list_list, isi_list_tuple, isi_list_none, isi_tuple_int, isi_tuple_bool, isi_tuple_str, isi_tuple_list, isi_tuple_tuple, isi_tuple_none, ok_sh, ok_fr, nkk_sh, nkk_fr, nkk_pk, frm_sh, frm_fr, frm_kk, sc_int, sc_bool, sc_str, sc_none, sc_list, sc_tuple, tru_bool, tru_int, tru_none, tru_list, tru_tuple, rd_val, rd_own, rd_ro, rf_val, rf_own, so_un, so_val, so_own, sg_un, sg_val, sg_own, sg_gen, nb_un, nb_val, nb_own, nb_ro, bo_bor, bo_gen, ro_ro, re_bor, re_gen, ov_backN, ov_backS, ov_lend, setV_own, setV_bor, setV_gen, adr_own, adr_bor, adr_gen, ws_setIx, ws_app, fMax2, fMin2, fSub, fFdiv, fMod, fPow, fShl, fShr, fAnd, fOr, fXor, fLt, fLe, fGt, fGe, List.getElem?_cons_zero, List.getElem?_cons_succ, List.set_cons_zero, List.set_cons_succ, List.length_cons, List.length_nil, List.all_cons, List.all_nil, List.isEmpty_cons, List.isEmpty_nil, List.filterMap_cons, List.filterMap_nil, Option.isSome_some, Bool.not_true, Bool.not_false, Bool.and_true, Bool.true_and, Bool.and_false, Bool.false_and, Bool.or_false, Bool.false_or, Bool.or_true, Bool.true_or, if_true, if_false, Bool.false_eq_true, true_and, and_true, false_and, and_false, Option.isSome_none, reduceCtorEq, decide_eq_true_eq, rv_ret, rv_next, ov_endN, ov_endR, ov_endB, refR_sh, refR_fr]
  by_cases h : 0 ≤ z
  · simp only [h, decide_true, if_true, true_and]
    refine fv_mono (pow_int h0 h1) ?_
    rintro r g rfl
    simp only [we_lit, we_globL, we_var, we_varF, we_1, we_2, we_lst, we_tup, we_not, we_and, we_or, we_if, we_borIx, we_sl, wi_none, wi_some, we_lr1, we_lr2, we_call, we_call0, we_callB, we_callR, we_callK, we_callT, wipeE, restE, keepS, wt_yes, wt_tru, wt_boo, wt_not, wt_and, wt_or, wa_nil, wa_cons, wp_nil, wp_cons, wq_P, wq_S, wa_seq, wa_enum, wa_zip, wa_rng1, wa_rng2, ws_skip, ws_brk, ws_cont, ws_never, on_next, on_ret, on_brk, on_cont, ws_seq, ws_ret, ws_retN, ws_drop, ws_if, ws_set, ws_setB, ws_asg, ws_par, ws_for, wg_n, wg_t, wgs_nil, wgs_cons, ov_some, ov_none, ov_sr, ov_if, ov_st, ov_put_sh, ov_put_fr, intS_int, bolS_bool, seqS_l, seqS_t, lstS_l, lstF_fr, fAdd_ii, fAdd_ss, fAdd_ll, fAdd_tt, fI_ii, fIc_ii, fMul_ii, fMul_li, ov_fEq, ov_fNe, fCmp_ii, fIn_l, fNotIn_l, fNeg_i, ov_fIx_li, ov_fIx_ti, fSl_l, fSl_t, fLen_l, fLen_t, fLen_s, fInt_i, fInt_b, fAbs_i, fList_l, fList_t, fTuple_l, fTuple_t, fBits_i, ov_fRepr, fIsi_d, fIsN_n, isi_int_int, isi_int_bool, isi_int_str, isi_int_list, isi_int_tuple, isi_int_none, isi_bool_int, isi_bool_bool, isi_bool_str, isi_bool_list, isi_bool_tuple, isi_bool_none, isi_str_int, isi_str_bool, isi_str_str, isi_str_list, isi_str_tuple, isi_str_none, isi_list_int, isi_list_bool, isi_list_str, isi_list_list, isi_list_tuple, isi_list_none, isi_tuple_int, isi_tuple_bool, isi_tuple_str, isi_tuple_list, isi_tuple_tuple, isi_tuple_none, ok_sh, ok_fr, nkk_sh, nkk_fr, nkk_pk, frm_sh, frm_fr, frm_kk, sc_int, sc_bool, sc_str, sc_none, sc_list, sc_tuple, tru_bool, tru_int, tru_none, tru_list, tru_tuple, rd_val, rd_own, rd_ro, rf_val, rf_own, so_un, so_val, so_own, sg_un, sg_val, sg_own, sg_gen, nb_un, nb_val, nb_own, nb_ro, bo_bor, bo_gen, ro_ro, re_bor, re_gen, ov_backN, ov_backS, ov_lend, setV_own, setV_bor, setV_gen, adr_own, adr_bor, adr_gen, ws_setIx, ws_app, fMax2, fMin2, fSub, fFdiv, fMod, fPow, fShl, fShr, fAnd, fOr, fXor, fLt, fLe, fGt, fGe, List.getElem?_cons_zero, List.getElem?_cons_succ, List.set_cons_zero, List.set_cons_succ, List.length_cons, List.length_nil, List.all_cons, List.all_nil, List.isEmpty_cons, List.isEmpty_nil, List.filterMap_cons, List.filterMap_nil, Option.isSome_some, Bool.not_true, Bool.not_false, Bool.and_true, Bool.true_and, Bool.and_false, Bool.false_and, Bool.or_false, Bool.false_or, Bool.or_true, Bool.true_or, if_true, if_false, Bool.false_eq_true, true_and, and_true, false_and, and_false, Option.isSome_none, reduceCtorEq, decide_eq_true_eq, rv_ret, rv_next, ov_endN, ov_endR, ov_endB, refR_sh, refR_fr]
  · simp [h]
theorem check_width {w : Int} (h0 : 0 ≤ w) (h1 : w ≤ 64) : FV F_check_width [] [.int w] fun r gs => r = ⟨.none, false, .sh⟩ := by
  refine fv_run ?_
  show SV u_check_width [.val false (.int w)] _
  unfold u_check_width
  simp only [we_lit, we_globL, we_var, we_varF, we_1, we_2, we_lst, we_tup, we_not, we_and, we_or, we_if, we_borIx, we_sl, wi_none, wi_some, we_lr1, we_lr2, we_call, we_call0, we_callB, we_callR, we_callK, we_callT, wipeE, restE, keepS, wt_yes, wt_tru, wt_boo, wt_not, wt_and, wt_or, wa_nil, wa_cons, wp_nil, wp_cons, wq_P, wq_S, wa_seq, wa_enum, wa_zip, wa_rng1, wa_rng2, ws_skip, ws_brk, ws_cont, ws_never, on_next, on_ret, on_brk, on_cont, ws_seq, ws_ret, ws_retN, ws_drop, ws_if, ws_set, ws_setB, ws_asg, ws_par, ws_for, wg_n, wg_t, wgs_nil, wgs_cons, ov_some, ov_none, ov_sr, ov_if, ov_st, ov_put_sh, ov_put_fr, intS_int, bolS_bool, seqS_l, seqS_t, lstS_l, lstF_fr, fAdd_ii, fAdd_ss, fAdd_ll, fAdd_tt, fI_ii, fIc_ii, fMul_ii, fMul_li, ov_fEq, ov_fNe, fCmp_ii, fIn_l, fNotIn_l, fNeg_i, ov_fIx_li, ov_fIx_ti, fSl_l, fSl_t, fLen_l, fLen_t, fLen_s, fInt_i, fInt_b, fAbs_i, fList_l, fList_t, fTuple_l, fTuple_t, fBits_i, ov_fRepr, fIsi_d, fIsN_n, isi_int_int, isi_int_bool, isi_int_str, isi_int_list, isi_int_tuple, isi_int_none, isi_bool_int, isi_bool_bool, isi_bool_str, isi_bool_list, isi_bool_tuple, isi_bool_none, isi_str_int, isi_str_bool, isi_str_str, isi_str_list, isi_str_tuple, isi_str_none, isi_list_int, isi_list_bool, isi_list_str, isi_list_list, isi_list_tuple, isi_list_none, isi_tuple_int, isi_tuple_bool, isi_tuple_str, isi_tuple_list, isi_tuple_tuple, isi_tuple_none, ok_sh, ok_fr, nkk_sh, nkk_fr, nkk_pk, frm_sh, frm_fr, frm_kk, sc_int, sc_bool, sc_str, sc_none, sc_list, sc_tuple, tru_bool, tru_int, tru_none, tru_list, tru_tuple, rd_val, rd_own, rd_ro, rf_val, rf_own, so_un, so_val, so_own, sg_un, sg_val, sg_own, sg_gen, nb_un, nb_val, nb_own, nb_ro, bo_bor, bo_gen, ro_ro, re_bor, re_gen, ov_backN, ov_backS, ov_lend, setV_own, setV_bor, setV_gen, adr_own, adr_bor, adr_gen, ws_setIx, ws_app, fMax2, fMin2, fSub, fFdiv, fMod, fPow, fShl, fShr, fAnd, fOr, fXor, fLt, fLe, fGt, fGe, List.getElem?_cons_zero, List.getElem?_cons_succ, List.set_cons_zero, List.set_cons_succ, List.length_cons, List.length_nil, List.all_cons, List.all_nil, List.isEmpty_cons, List.isEmpty_nil, List.filterMap_cons, List.filterMap_nil, Option.isSome_some, Bool.not_true, Bool.not_false, Bool.and_true, Bool.true_and, Bool.and_false, Bool.false_and, Bool.or_false, Bool.false_or, Bool.or_true, Bool.true_or, if_true, if_false, Bool.false_eq_true, true_and, and_true, false_and, and_false, Option.isSome_none, reduceCtorEq, decide_eq_true_eq, rv_ret, rv_next, ov_endN, ov_endR, ov_endB, refR_sh, refR_fr]
  refine fv_mono width_int ?_
  rintro r g rfl
  simp only [we_lit, we_globL, we_var, we_varF, we_1, we_2, we_lst, we_tup, we_not, we_and, we_or, we_if, we_borIx, we_sl, wi_none, wi_some, we_lr1, we_lr2, we_call, we_call0, we_callB, we_callR, we_callK, we_callT, wipeE, restE, keepS, wt_yes, wt_tru, wt_boo, wt_not, wt_and, wt_or, wa_nil, wa_cons, wp_nil, wp_cons, wq_P, wq_S, wa_seq, wa_enum, wa_zip, wa_rng1, wa_rng2, ws_skip, ws_brk, ws_cont, ws_never, on_next, on_ret, on_brk, on_cont, ws_seq, ws_ret, ws_retN, ws_drop, ws_if, ws_set, ws_setB, ws_asg, ws_par, ws_for, wg_n, wg_t, wgs_nil, wgs_cons, ov_some, ov_none, ov_sr, ov_if, ov_st, ov_put_sh, ov_put_fr, intS_int, bolS_bool, seqS_l, seqS_t, lstS_l, lstF_fr, fAdd_ii, fAdd_ss, fAdd_ll, fAdd_tt, fI_ii, fIc_ii, fMul_ii, fMul_li, ov_fEq, ov_fNe, fCmp_ii, fIn_l, fNotIn_l, fNeg_i, ov_fIx_li, ov_fIx_ti, fSl_l, fSl_t, fLen_l, fLen_t, fLen_s, fInt_i, fInt_b, fAbs_i, fList_l, fList_t, fTuple_l, fTuple_t, fBits_i, ov_fRepr, fIsi_d, fIsN_n, isi_int_int, isi_int_bool, isi_int_str, isi_int_list, isi_int_tuple, isi_int_none, isi_bool_int, isi_bool_bool, isi_bool_str, isi_bool_list, isi_bool_tuple, isi_bool_none, isi_str_int, isi_str_bool, isi_str_str, isi_str_list, isi_str_tuple, isi_str_none, isi_list_int, isi_list_bool, isi_list_str, isi_list_list, isi_list_tuple, isi_list_none, isi_tuple_int, isi_tuple_bool, isi_tuple_str, isi_tuple_list, isi_tuple_tuple, isi_tuple_none, ok_sh, ok_fr, nkk_sh, nkk_fr, nkk_pk, frm_sh, frm_fr, frm_kk, sc_int, sc_bool, sc_str, sc_none, sc_list, sc_tuple, tru_bool, tru_int, tru_none, tru_list, tru_tuple, rd_val, rd_own, rd_ro, rf_val, rf_own, so_un, so_val, so_own, sg_un, sg_val, sg_own, sg_gen, nb_un, nb_val, nb_own, nb_ro, bo_bor, bo_gen, ro_ro, re_bor, re_gen, ov_backN, ov_backS, ov_lend, setV_own, setV_bor, setV_gen, adr_own, adr_bor, adr_gen, ws_setIx, ws_app, fMax2, fMin2, fSub, fFdiv, fMod, fPow, fShl, fShr, fAnd, fOr, fXor, fLt, fLe, fGt, fGe, List.getElem?_cons_zero, List.getElem?_cons_succ, List.set_cons_zero, List.set_cons_succ, List.length_cons, List.length_nil, List.all_cons, List.all_nil, List.isEmpty_cons, List.isEmpty_nil, List.filterMap_cons, List.filterMap_nil, Option.isSome_some, Bool.not_true, Bool.not_false, Bool.and_true, Bool.true_and, Bool.and_false, Bool.false_and, Bool.or_false, Bool.false_or, Bool.or_true, Bool.true_or, if_true, if_false, Bool.false_eq_true, true_and, and_true, false_and, and_false, Option.isSome_none, reduceCtorEq, decide_eq_true_eq, rv_ret, rv_next, ov_endN, ov_endR, ov_endB, refR_sh, refR_fr, h0, h1, decide_true]
theorem check_word {w z : Int} (h0 : 0 ≤ w) (h1 : w ≤ 64) (h2 : 0 ≤ z) (h3 : z < 2 ^ w.toNat) : FV F_check_word [] [.int w, .int z] fun r gs => r = ⟨.none, false, .sh⟩ := by
  refine fv_run ?_
  show SV u_check_word [.val false (.int w), .val false (.int z)] _
  unfold u_check_word
  simp only [we_lit, we_globL, we_var, we_varF, we_1, we_2, we_lst, we_tup, we_not, we_and, we_or, we_if, we_borIx, we_sl, wi_none, wi_some, we_lr1, we_lr2, we_call, we_call0, we_callB, we_callR, we_callK, we_callT, wipeE, restE, keepS, wt_yes, wt_tru, wt_boo, wt_not, wt_and, wt_or, wa_nil, wa_cons, wp_nil, wp_cons, wq_P, wq_S, wa_seq, wa_enum, wa_zip, wa_rng1, wa_rng2, ws_skip, ws_brk, ws_cont, ws_never, on_next, on_ret, on_brk, on_cont, ws_seq, ws_ret, ws_retN, ws_drop, ws_if, ws_set, ws_setB, ws_asg, ws_par, ws_for, wg_n, wg_t, wgs_nil, wgs_cons, ov_some, ov_none, ov_sr, ov_if, ov_st, ov_put_sh, ov_put_fr, intS_int, bolS_bool, seqS_l, seqS_t, lstS_l, lstF_fr, fAdd_ii, fAdd_ss, fAdd_ll, fAdd_tt, fI_ii, fIc_ii, fMul_ii, fMul_li, ov_fEq, ov_fNe, fCmp_ii, fIn_l, fNotIn_l, fNeg_i, ov_fIx_li, ov_fIx_ti, fSl_l, fSl_t, fLen_l, fLen_t, fLen_s, fInt_i, fInt_b, fAbs_i, fList_l, fList_t, fTuple_l, fTuple_t, fBits_i, ov_fRepr, fIsi_d, fIsN_n, isi_int_int, isi_int_bool, isi_int_str, isi_int_list, isi_int_tuple, isi_int_none, isi_bool_int, isi_bool_bool, isi_bool_str, isi_bool_list, isi_bool_tuple, isi_bool_none, isi_str_int, isi_str_bool, isi_str_str, isi_str_list, isi_str_tuple, isi_str_none, isi_list_int, isi_list_bool, isi_list_str, isi_list_list, isi_list_tuple, isi_list_none, isi_tuple_int, isi_tuple_bool, isi_tuple_str, isi_tuple_list, isi_tuple_tuple, isi_tuple_none, ok_sh, ok_fr, nkk_sh, nkk_fr, nkk_pk, frm_sh, frm_fr, frm_kk, sc_int, sc_bool, sc_str, sc_none, sc_list, sc_tuple, tru_bool, tru_int, tru_none, tru_list, tru_tuple, rd_val, rd_own, rd_ro, rf_val, rf_own, so_un, so_val, so_own, sg_un, sg_val, sg_own, sg_gen, nb_un, nb_val, nb_own, nb_ro, bo_bor, bo_gen, ro_ro, re_bor, re_gen, ov_backN, ov_backS, ov_lend, setV_own, setV_bor, setV_gen, adr_own, adr_bor, adr_gen, ws_setIx, ws_app, fMax2, fMin2, fSub, fFdiv, fMod, fPow, fShl, fShr, fAnd, fOr, fXor, fLt, fLe, fGt, fGe, List.getElem?_cons_zero, List.getElem?_cons_succ, List.set_cons_zero, List.set_cons_succ, List.length_cons, List.length_nil, List.all_cons, List.all_nil, List.isEmpty_cons, List.isEmpty_nil, List.filterMap_cons, List.filterMap_nil, Option.isSome_some, Bool.not_true, Bool.not_false, Bool.and_true, Bool.true_and, Bool.and_false, Bool.false_and, Bool.or_false, Bool.false_or, Bool.or_true, Bool.true_or, if_true, if_false, Bool.false_eq_true, true_and, and_true, false_and, and_false, Option.isSome_none, reduceCtorEq, decide_eq_true_eq, rv_ret, rv_next, ov_endN, ov_endR, ov_endB, refR_sh, refR_fr]
  refine fv_mono (word_int h0 (by omega)) ?_
  rintro r g rfl
  simp only [we_lit, we_globL, we_var, we_varF, we_1, we_2, we_lst, we_tup, we_not, we_and, we_or, we_if, we_borIx, we_sl, wi_none, wi_some, we_lr1, we_lr2, we_call, we_call0, we_callB, we_callR, we_callK, we_callT, wipeE, restE, keepS, wt_yes, wt_tru, wt_boo, wt_not, wt_and, wt_or, wa_nil, wa_cons, wp_nil, wp_cons, wq_P, wq_S, wa_seq, wa_enum, wa_zip, wa_rng1, wa_rng2, ws_skip, ws_brk, ws_cont, ws_never, on_next, on_ret, on_brk, on_cont, ws_seq, ws_ret, ws_retN, ws_drop, ws_if, ws_set, ws_setB, ws_asg, ws_par, ws_for, wg_n, wg_t, wgs_nil, wgs_cons, ov_some, ov_none, ov_sr, ov_if, ov_st, ov_put_sh, ov_put_fr, intS_int, bolS_bool, seqS_l, seqS_t, lstS_l, lstF_fr, fAdd_ii, fAdd_ss, fAdd_ll, fAdd_tt, fI_ii, fIc_ii, fMul_ii, fMul_li, ov_fEq, ov_fNe, fCmp_ii, fIn_l, fNotIn_l, fNeg_i, ov_fIx_li, ov_fIx_ti, fSl_l, fSl_t, fLen_l, fLen_t, fLen_s, fInt_i, fInt_b, fAbs_i, fList_l, fList_t, fTuple_l, fTuple_t, fBits_i, ov_fRepr, fIsi_d, fIsN_n, isi_int_int, isi_int_bool, isi_int_str, isi_int_list, isi_int_tuple, isi_int_none, isi_bool_int, isi_bool_bool, isi_bool_str, isi_bool_list, isi_bool_tuple, isi_bool_none, isi_str_int, isi_str_bool, isi_str_str, isi_str_list, isi_str_tuple, isi_str_none, isi_list_int, isi_list_bool, isi_list_str, isi_list_list, isi_list_tuple, isi_list_none, isi_tuple_int, isi_tuple_bool, isi_tuple_str, isi_tuple_list, isi_tuple_tuple, isi_tuple_none, ok_sh, ok_fr, nkk_sh, nkk_fr, nkk_pk, frm_sh, frm_fr, frm_kk, sc_int, sc_bool, sc_str, sc_none, sc_list, sc_tuple, tru_bool, tru_int, tru_none, tru_list, tru_tuple, rd_val, rd_own, rd_ro, rf_val, rf_own, so_un, so_val, so_own, sg_un, sg_val, sg_own, sg_gen, nb_un, nb_val, nb_own, nb_ro, bo_bor, bo_gen, ro_ro, re_bor, re_gen, ov_backN, ov_backS, ov_lend, setV_own, setV_bor, setV_gen, adr_own, adr_bor, adr_gen, ws_setIx, ws_app, fMax2, fMin2, fSub, fFdiv, fMod, fPow, fShl, fShr, fAnd, fOr, fXor, fLt, fLe, fGt, fGe, List.getElem?_cons_zero, List.getElem?_cons_succ, List.set_cons_zero, List.set_cons_succ, List.length_cons, List.length_nil, List.all_cons, List.all_nil, List.isEmpty_cons, List.isEmpty_nil, List.filterMap_cons, List.filterMap_nil, Option.isSome_some, Bool.not_true, Bool.not_false, Bool.and_true, Bool.true_and, Bool.and_false, Bool.false_and, Bool.or_false, Bool.false_or, Bool.or_true, Bool.true_or, if_true, if_false, Bool.false_eq_true, true_and, and_true, false_and, and_false, Option.isSome_none, reduceCtorEq, decide_eq_true_eq, rv_ret, rv_next, ov_endN, ov_endR, ov_endB, refR_sh, refR_fr, h2, h3, decide_true]
theorem bit_ok {z k : Int} (h0 : 0 ≤ k) : FV F_bit_of [] [.int z, .int k] fun r gs => r = ⟨.int (z / 2 ^ k.toNat % 2), false, .sh⟩ := by
  refine fv_run ?_
  show SV u_bit_of [.val false (.int z), .val false (.int k)] _
  unfold u_bit_of
  simp only [we_lit, we_globL, we_var, we_varF, we_1, we_2, we_lst, we_tup, we_not, we_and, we_or, we_if, we_borIx, we_sl, wi_none, wi_some, we_lr1, we_lr2, we_call, we_call0, we_callB, we_callR, we_callK, we_callT, wipeE, restE, keepS, wt_yes, wt_tru, wt_boo, wt_not, wt_and, wt_or, wa_nil, wa_cons, wp_nil, wp_cons, wq_P, wq_S, wa_seq, wa_enum, wa_zip, wa_rng1, wa_rng2, ws_skip, ws_brk, ws_cont, ws_never, on_next, on_ret, on_brk, on_cont, ws_seq, ws_ret, ws_retN, ws_drop, ws_if, ws_set, ws_setB, ws_asg, ws_par, ws_for, wg_n, wg_t, wgs_nil, wgs_cons, ov_some, ov_none, ov_sr, ov_if, ov_st, ov_put_sh, ov_put_fr, intS_int, bolS_bool, seqS_l, seqS_t, lstS_l, lstF_fr, fAdd_ii, fAdd_ss, fAdd_ll, fAdd_tt, fI_ii, fIc_ii, fMul_ii, fMul_li, ov_fEq, ov_fNe, fCmp_ii, fIn_l, fNotIn_l, fNeg_i, ov_fIx_li, ov_fIx_ti, fSl_l, fSl_t, fLen_l, fLen_t, fLen_s, fInt_i, fInt_b, fAbs_i, fList_l, fList_t, fTuple_l, fTuple_t, fBits_i, ov_fRepr, fIsi_d, fIsN_n, isi_int_int, isi_int_bool, isi_int_str, isi_int_list, isi_int_tuple, isi_int_none, isi_bool_int, isi_bool_bool, isi_bool_str, isi_bool_list, isi_bool_tuple, isi_bool_none, isi_str_int, isi_str_bool, isi_str_str, isi_str_list, isi_str_tuple, isi_str_none, isi_list_int, isi_list_bool, isi_list_str, isi_list_list, isi_list_tuple, isi_list_none, isi_tuple_int, isi_tuple_bool, isi_tuple_str, isi_tuple_list, isi_tuple_tuple, isi_tuple_none, ok_sh, ok_fr, nkk_sh, nkk_fr, nkk_pk, frm_sh, frm_fr, frm_kk, sc_int, sc_bool, sc_str, sc_none, sc_list, sc_tuple, tru_bool, tru_int, tru_none, tru_list, tru_tuple, rd_val, rd_own, rd_ro, rf_val, rf_own, so_un, so_val, so_own, sg_un, sg_val, sg_own, sg_gen, nb_un, nb_val, nb_own, nb_ro, bo_bor, bo_gen, ro_ro, re_bor, re_gen, ov_backN, ov_backS, ov_lend, setV_own, setV_bor, setV_gen, adr_own, adr_bor, adr_gen, ws_setIx, ws_app, fMax2, fMin2, fSub, fFdiv, fMod, fPow, fShl, fShr, fAnd, fOr, fXor, fLt, fLe, fGt, fGe, List.getElem?_cons_zero, List.getElem?_cons_succ, List.set_cons_zero, List.set_cons_succ, List.length_cons, List.length_nil, List.all_cons, List.all_nil, List.isEmpty_cons, List.isEmpty_nil, List.filterMap_cons, List.filterMap_nil, Option.isSome_some, Bool.not_true, Bool.not_false, Bool.and_true, Bool.true_and, Bool.and_false, Bool.false_and, Bool.or_false, Bool.false_or, Bool.or_true, Bool.true_or, if_true, if_false, Bool.false_eq_true, true_and, and_true, false_and, and_false, Option.isSome_none, reduceCtorEq, decide_eq_true_eq, rv_ret, rv_next, ov_endN, ov_endR, ov_endB, refR_sh, refR_fr]
  exact ⟨h0, by rw [PyProof.Rows.bitAnd_m1]⟩
theorem bits_len {n : Nat} {x : Int} : (bits n x).length = n := by unfold bits; rw [List.length_map, List.length_range]
theorem bits_succ {n : Nat} {x : Int} : bits (n + 1) x = bits n x ++ [x / 2 ^ n % 2] := by
  unfold bits
  rw [List.range_succ, List.map_append]
  rfl
theorem bits_ok {w z : Int} (h0 : 0 ≤ w) (h1 : w ≤ 64) (h2 : 0 ≤ z) (h3 : z < 2 ^ w.toNat) : FV F_bits_of [] [.int w, .int z] fun r gs => r = ⟨.list ((bits w.toNat z).map .int), false, .fr⟩ := by
  refine fv_run ?_
  show SV u_bits_of [.val false (.int w), .val false (.int z), .un] _
  unfold u_bits_of
  simp only [we_lit, we_globL, we_var, we_varF, we_1, we_2, we_lst, we_tup, we_not, we_and, we_or, we_if, we_borIx, we_sl, wi_none, wi_some, we_lr1, we_lr2, we_call, we_call0, we_callB, we_callR, we_callK, we_callT, wipeE, restE, keepS, wt_yes, wt_tru, wt_boo, wt_not, wt_and, wt_or, wa_nil, wa_cons, wp_nil, wp_cons, wq_P, wq_S, wa_seq, wa_enum, wa_zip, wa_rng1, wa_rng2, ws_skip, ws_brk, ws_cont, ws_never, on_next, on_ret, on_brk, on_cont, ws_seq, ws_ret, ws_retN, ws_drop, ws_if, ws_set, ws_setB, ws_asg, ws_par, ws_for, wg_n, wg_t, wgs_nil, wgs_cons, ov_some, ov_none, ov_sr, ov_if, ov_st, ov_put_sh, ov_put_fr, intS_int, bolS_bool, seqS_l, seqS_t, lstS_l, lstF_fr, fAdd_ii, fAdd_ss, fAdd_ll, fAdd_tt, fI_ii, fIc_ii, fMul_ii, fMul_li, ov_fEq, ov_fNe, fCmp_ii, fIn_l, fNotIn_l, fNeg_i, ov_fIx_li, ov_fIx_ti, fSl_l, fSl_t, fLen_l, fLen_t, fLen_s, fInt_i, fInt_b, fAbs_i, fList_l, fList_t, fTuple_l, fTuple_t, fBits_i, ov_fRepr, fIsi_d, fIsN_n, isi_int_int, isi_int_bool, isi_int_str, isi_int_list, isi_int_tuple, isi_int_none, isi_bool_int, isi_bool_bool, isi_bool_str, isi_bool_list, isi_bool_tuple, isi_bool_none, isi_str_int, isi_str_bool, isi_str_str, isi_str_list, isi_str_tuple, isi_str_none, isi_list_int, isi_list_bool, isi_list_str, isi_list_list, isi_list_tuple, isi_list_none, isi_tuple_int, isi_tuple_bool, isi_tuple_str, isi_tuple_list, isi_tuple_tuple, isi_tuple_none, ok_sh, ok_fr, nkk_sh, nkk_fr, nkk_pk, frm_sh, frm_fr, frm_kk, sc_int, sc_bool, sc_str, sc_none, sc_list, sc_tuple, tru_bool, tru_int, tru_none, tru_list, tru_tuple, rd_val, rd_own, rd_ro, rf_val, rf_own, so_un, so_val, so_own, sg_un, sg_val, sg_own, sg_gen, nb_un, nb_val, nb_own, nb_ro, bo_bor, bo_gen, ro_ro, re_bor, re_gen, ov_backN, ov_backS, ov_lend, setV_own, setV_bor, setV_gen, adr_own, adr_bor, adr_gen, ws_setIx, ws_app, fMax2, fMin2, fSub, fFdiv, fMod, fPow, fShl, fShr, fAnd, fOr, fXor, fLt, fLe, fGt, fGe, List.getElem?_cons_zero, List.getElem?_cons_succ, List.set_cons_zero, List.set_cons_succ, List.length_cons, List.length_nil, List.all_cons, List.all_nil, List.isEmpty_cons, List.isEmpty_nil, List.filterMap_cons, List.filterMap_nil, Option.isSome_some, Bool.not_true, Bool.not_false, Bool.and_true, Bool.true_and, Bool.and_false, Bool.false_and, Bool.or_false, Bool.false_or, Bool.or_true, Bool.true_or, if_true, if_false, Bool.false_eq_true, true_and, and_true, false_and, and_false, Option.isSome_none, reduceCtorEq, decide_eq_true_eq, rv_ret, rv_next, ov_endN, ov_endR, ov_endB, refR_sh, refR_fr]
  refine fv_mono (check_width h0 h1) ?_
  rintro r g rfl
  simp only [we_lit, we_globL, we_var, we_varF, we_1, we_2, we_lst, we_tup, we_not, we_and, we_or, we_if, we_borIx, we_sl, wi_none, wi_some, we_lr1, we_lr2, we_call, we_call0, we_callB, we_callR, we_callK, we_callT, wipeE, restE, keepS, wt_yes, wt_tru, wt_boo, wt_not, wt_and, wt_or, wa_nil, wa_cons, wp_nil, wp_cons, wq_P, wq_S, wa_seq, wa_enum, wa_zip, wa_rng1, wa_rng2, ws_skip, ws_brk, ws_cont, ws_never, on_next, on_ret, on_brk, on_cont, ws_seq, ws_ret, ws_retN, ws_drop, ws_if, ws_set, ws_setB, ws_asg, ws_par, ws_for, wg_n, wg_t, wgs_nil, wgs_cons, ov_some, ov_none, ov_sr, ov_if, ov_st, ov_put_sh, ov_put_fr, intS_int, bolS_bool, seqS_l, seqS_t, lstS_l, lstF_fr, fAdd_ii, fAdd_ss, fAdd_ll, fAdd_tt, fI_ii, fIc_ii, fMul_ii, fMul_li, ov_fEq, ov_fNe, fCmp_ii, fIn_l, fNotIn_l, fNeg_i, ov_fIx_li, ov_fIx_ti, fSl_l, fSl_t, fLen_l, fLen_t, fLen_s, fInt_i, fInt_b, fAbs_i, fList_l, fList_t, fTuple_l, fTuple_t, fBits_i, ov_fRepr, fIsi_d, fIsN_n, isi_int_int, isi_int_bool, isi_int_str, isi_int_list, isi_int_tuple, isi_int_none, isi_bool_int, isi_bool_bool, isi_bool_str, isi_bool_list, isi_bool_tuple, isi_bool_none, isi_str_int, isi_str_bool, isi_str_str, isi_str_list, isi_str_tuple, isi_str_none, isi_list_int, isi_list_bool, isi_list_str, isi_list_list, isi_list_tuple, isi_list_none, isi_tuple_int, isi_tuple_bool, isi_tuple_str, isi_tuple_list, isi_tuple_tuple, isi_tuple_none, ok_sh, ok_fr, nkk_sh, nkk_fr, nkk_pk, frm_sh, frm_fr, frm_kk, sc_int, sc_bool, sc_str, sc_none, sc_list, sc_tuple, tru_bool, tru_int, tru_none, tru_list, tru_tuple, rd_val, rd_own, rd_ro, rf_val, rf_own, so_un, so_val, so_own, sg_un, sg_val, sg_own, sg_gen, nb_un, nb_val, nb_own, nb_ro, bo_bor, bo_gen, ro_ro, re_bor, re_gen, ov_backN, ov_backS, ov_lend, setV_own, setV_bor, setV_gen, adr_own, adr_bor, adr_gen, ws_setIx, ws_app, fMax2, fMin2, fSub, fFdiv, fMod, fPow, fShl, fShr, fAnd, fOr, fXor, fLt, fLe, fGt, fGe, List.getElem?_cons_zero, List.getElem?_cons_succ, List.set_cons_zero, List.set_cons_succ, List.length_cons, List.length_nil, List.all_cons, List.all_nil, List.isEmpty_cons, List.isEmpty_nil, List.filterMap_cons, List.filterMap_nil, Option.isSome_some, Bool.not_true, Bool.not_false, Bool.and_true, Bool.true_and, Bool.and_false, Bool.false_and, Bool.or_false, Bool.false_or, Bool.or_true, Bool.true_or, if_true, if_false, Bool.false_eq_true, true_and, and_true, false_and, and_false, Option.isSome_none, reduceCtorEq, decide_eq_true_eq, rv_ret, rv_next, ov_endN, ov_endR, ov_endB, refR_sh, refR_fr]
  refine fv_mono (check_word h0 h1 h2 h3) ?_
  rintro r g rfl
  simp only [we_lit, we_globL, we_var, we_varF, we_1, we_2, we_lst, we_tup, we_not, we_and, we_or, we_if, we_borIx, we_sl, wi_none, wi_some, we_lr1, we_lr2, we_call, we_call0, we_callB, we_callR, we_callK, we_callT, wipeE, restE, keepS, wt_yes, wt_tru, wt_boo, wt_not, wt_and, wt_or, wa_nil, wa_cons, wp_nil, wp_cons, wq_P, wq_S, wa_seq, wa_enum, wa_zip, wa_rng1, wa_rng2, ws_skip, ws_brk, ws_cont, ws_never, on_next, on_ret, on_brk, on_cont, ws_seq, ws_ret, ws_retN, ws_drop, ws_if, ws_set, ws_setB, ws_asg, ws_par, ws_for, wg_n, wg_t, wgs_nil, wgs_cons, ov_some, ov_none, ov_sr, ov_if, ov_st, ov_put_sh, ov_put_fr, intS_int, bolS_bool, seqS_l, seqS_t, lstS_l, lstF_fr, fAdd_ii, fAdd_ss, fAdd_ll, fAdd_tt, fI_ii, fIc_ii, fMul_ii, fMul_li, ov_fEq, ov_fNe, fCmp_ii, fIn_l, fNotIn_l, fNeg_i, ov_fIx_li, ov_fIx_ti, fSl_l, fSl_t, fLen_l, fLen_t, fLen_s, fInt_i, fInt_b, fAbs_i, fList_l, fList_t, fTuple_l, fTuple_t, fBits_i, ov_fRepr, fIsi_d, fIsN_n, isi_int_int, isi_int_bool, isi_int_str, isi_int_list, isi_int_tuple, isi_int_none, isi_bool_int, isi_bool_bool, isi_bool_str, isi_bool_list, isi_bool_tuple, isi_bool_none, isi_str_int, isi_str_bool, isi_str_str, isi_str_list, isi_str_tuple, isi_str_none, isi_list_int, isi_list_bool, isi_list_str, isi_list_list, isi_list_tuple, isi_list_none, isi_tuple_int, isi_tuple_bool, isi_tuple_str, isi_tuple_list, isi_tuple_tuple, isi_tuple_none, ok_sh, ok_fr, nkk_sh, nkk_fr, nkk_pk, frm_sh, frm_fr, frm_kk, sc_int, sc_bool, sc_str, sc_none, sc_list, sc_tuple, tru_bool, tru_int, tru_none, tru_list, tru_tuple, rd_val, rd_own, rd_ro, rf_val, rf_own, so_un, so_val, so_own, sg_un, sg_val, sg_own, sg_gen, nb_un, nb_val, nb_own, nb_ro, bo_bor, bo_gen, ro_ro, re_bor, re_gen, ov_backN, ov_backS, ov_lend, setV_own, setV_bor, setV_gen, adr_own, adr_bor, adr_gen, ws_setIx, ws_app, fMax2, fMin2, fSub, fFdiv, fMod, fPow, fShl, fShr, fAnd, fOr, fXor, fLt, fLe, fGt, fGe, List.getElem?_cons_zero, List.getElem?_cons_succ, List.set_cons_zero, List.set_cons_succ, List.length_cons, List.length_nil, List.all_cons, List.all_nil, List.isEmpty_cons, List.isEmpty_nil, List.filterMap_cons, List.filterMap_nil, Option.isSome_some, Bool.not_true, Bool.not_false, Bool.and_true, Bool.true_and, Bool.and_false, Bool.false_and, Bool.or_false, Bool.false_or, Bool.or_true, Bool.true_or, if_true, if_false, Bool.false_eq_true, true_and, and_true, false_and, and_false, Option.isSome_none, reduceCtorEq, decide_eq_true_eq, rv_ret, rv_next, ov_endN, ov_endR, ov_endB, refR_sh, refR_fr, we_lc]
  refine ⟨rngOk_of2 (by omega) (by omega), ?_⟩
  refine lc_inv (fun i acc ρ => acc = (bits i z).map .int ∧ ρ = [.val false (.int w), .val false (.int z), .un]) ⟨rfl, rfl⟩ ?_ ?_
  · rintro i d acc ρ hd ⟨rfl, rfl⟩
    obtain ⟨y, rfl, hy, hy2⟩ := rngD_get hd
    simp only [we_lit, we_globL, we_var, we_varF, we_1, we_2, we_lst, we_tup, we_not, we_and, we_or, we_if, we_borIx, we_sl, wi_none, wi_some, we_lr1, we_lr2, we_call, we_call0, we_callB, we_callR, we_callK, we_callT, wipeE, restE, keepS, wt_yes, wt_tru, wt_boo, wt_not, wt_and, wt_or, wa_nil, wa_cons, wp_nil, wp_cons, wq_P, wq_S, wa_seq, wa_enum, wa_zip, wa_rng1, wa_rng2, ws_skip, ws_brk, ws_cont, ws_never, on_next, on_ret, on_brk, on_cont, ws_seq, ws_ret, ws_retN, ws_drop, ws_if, ws_set, ws_setB, ws_asg, ws_par, ws_for, wg_n, wg_t, wgs_nil, wgs_cons, ov_some, ov_none, ov_sr, ov_if, ov_st, ov_put_sh, ov_put_fr, intS_int, bolS_bool, seqS_l, seqS_t, lstS_l, lstF_fr, fAdd_ii, fAdd_ss, fAdd_ll, fAdd_tt, fI_ii, fIc_ii, fMul_ii, fMul_li, ov_fEq, ov_fNe, fCmp_ii, fIn_l, fNotIn_l, fNeg_i, ov_fIx_li, ov_fIx_ti, fSl_l, fSl_t, fLen_l, fLen_t, fLen_s, fInt_i, fInt_b, fAbs_i, fList_l, fList_t, fTuple_l, fTuple_t, fBits_i, ov_fRepr, fIsi_d, fIsN_n, isi_int_int, isi_int_bool, isi_int_str, isi_int_list, isi_int_tuple, isi_int_none, isi_bool_int, isi_bool_bool, isi_bool_str, isi_bool_list, isi_bool_tuple, isi_bool_none, isi_str_int, isi_str_bool, isi_str_str, isi_str_list, isi_str_tuple, isi_str_none, isi_list_int, isi_list_bool, isi_list_str, isi_list_list, isi_list_tuple, isi_list_none, isi_tuple_int, isi_tuple_bool, isi_tuple_str, isi_tuple_list, isi_tuple_tuple, isi_tuple_none, ok_sh, ok_fr, nkk_sh, nkk_fr, nkk_pk, frm_sh, frm_fr, frm_kk, sc_int, sc_bool, sc_str, sc_none, sc_list, sc_tuple, tru_bool, tru_int, tru_none, tru_list, tru_tuple, rd_val, rd_own, rd_ro, rf_val, rf_own, so_un, so_val, so_own, sg_un, sg_val, sg_own, sg_gen, nb_un, nb_val, nb_own, nb_ro, bo_bor, bo_gen, ro_ro, re_bor, re_gen, ov_backN, ov_backS, ov_lend, setV_own, setV_bor, setV_gen, adr_own, adr_bor, adr_gen, ws_setIx, ws_app, fMax2, fMin2, fSub, fFdiv, fMod, fPow, fShl, fShr, fAnd, fOr, fXor, fLt, fLe, fGt, fGe, List.getElem?_cons_zero, List.getElem?_cons_succ, List.set_cons_zero, List.set_cons_succ, List.length_cons, List.length_nil, List.all_cons, List.all_nil, List.isEmpty_cons, List.isEmpty_nil, List.filterMap_cons, List.filterMap_nil, Option.isSome_some, Bool.not_true, Bool.not_false, Bool.and_true, Bool.true_and, Bool.and_false, Bool.false_and, Bool.or_false, Bool.false_or, Bool.or_true, Bool.true_or, if_true, if_false, Bool.false_eq_true, true_and, and_true, false_and, and_false, Option.isSome_none, reduceCtorEq, decide_eq_true_eq, rv_ret, rv_next, ov_endN, ov_endR, ov_endB, refR_sh, refR_fr]
    refine fv_mono (bit_ok (by omega)) ?_
    rintro r g rfl
    simp only [we_lit, we_globL, we_var, we_varF, we_1, we_2, we_lst, we_tup, we_not, we_and, we_or, we_if, we_borIx, we_sl, wi_none, wi_some, we_lr1, we_lr2, we_call, we_call0, we_callB, we_callR, we_callK, we_callT, wipeE, restE, keepS, wt_yes, wt_tru, wt_boo, wt_not, wt_and, wt_or, wa_nil, wa_cons, wp_nil, wp_cons, wq_P, wq_S, wa_seq, wa_enum, wa_zip, wa_rng1, wa_rng2, ws_skip, ws_brk, ws_cont, ws_never, on_next, on_ret, on_brk, on_cont, ws_seq, ws_ret, ws_retN, ws_drop, ws_if, ws_set, ws_setB, ws_asg, ws_par, ws_for, wg_n, wg_t, wgs_nil, wgs_cons, ov_some, ov_none, ov_sr, ov_if, ov_st, ov_put_sh, ov_put_fr, intS_int, bolS_bool, seqS_l, seqS_t, lstS_l, lstF_fr, fAdd_ii, fAdd_ss, fAdd_ll, fAdd_tt, fI_ii, fIc_ii, fMul_ii, fMul_li, ov_fEq, ov_fNe, fCmp_ii, fIn_l, fNotIn_l, fNeg_i, ov_fIx_li, ov_fIx_ti, fSl_l, fSl_t, fLen_l, fLen_t, fLen_s, fInt_i, fInt_b, fAbs_i, fList_l, fList_t, fTuple_l, fTuple_t, fBits_i, ov_fRepr, fIsi_d, fIsN_n, isi_int_int, isi_int_bool, isi_int_str, isi_int_list, isi_int_tuple, isi_int_none, isi_bool_int, isi_bool_bool, isi_bool_str, isi_bool_list, isi_bool_tuple, isi_bool_none, isi_str_int, isi_str_bool, isi_str_str, isi_str_list, isi_str_tuple, isi_str_none, isi_list_int, isi_list_bool, isi_list_str, isi_list_list, isi_list_tuple, isi_list_none, isi_tuple_int, isi_tuple_bool, isi_tuple_str, isi_tuple_list, isi_tuple_tuple, isi_tuple_none, ok_sh, ok_fr, nkk_sh, nkk_fr, nkk_pk, frm_sh, frm_fr, frm_kk, sc_int, sc_bool, sc_str, sc_none, sc_list, sc_tuple, tru_bool, tru_int, tru_none, tru_list, tru_tuple, rd_val, rd_own, rd_ro, rf_val, rf_own, so_un, so_val, so_own, sg_un, sg_val, sg_own, sg_gen, nb_un, nb_val, nb_own, nb_ro, bo_bor, bo_gen, ro_ro, re_bor, re_gen, ov_backN, ov_backS, ov_lend, setV_own, setV_bor, setV_gen, adr_own, adr_bor, adr_gen, ws_setIx, ws_app, fMax2, fMin2, fSub, fFdiv, fMod, fPow, fShl, fShr, fAnd, fOr, fXor, fLt, fLe, fGt, fGe, List.getElem?_cons_zero, List.getElem?_cons_succ, List.set_cons_zero, List.set_cons_succ, List.length_cons, List.length_nil, List.all_cons, List.all_nil, List.isEmpty_cons, List.isEmpty_nil, List.filterMap_cons, List.filterMap_nil, Option.isSome_some, Bool.not_true, Bool.not_false, Bool.and_true, Bool.true_and, Bool.and_false, Bool.false_and, Bool.or_false, Bool.false_or, Bool.or_true, Bool.true_or, if_true, if_false, Bool.false_eq_true, true_and, and_true, false_and, and_false, Option.isSome_none, reduceCtorEq, decide_eq_true_eq, rv_ret, rv_next, ov_endN, ov_endR, ov_endB, refR_sh, refR_fr]
    rw [bits_succ, List.map_append]
    have : y.toNat = i := by omega
    rw [this]
    rfl
  · rintro out ρ' ⟨rfl, rfl⟩
    rw [rngD_len]
    simp only [we_lit, we_globL, we_var, we_varF, we_1, we_2, we_lst, we_tup, we_not, we_and, we_or, we_if, we_borIx, we_sl, wi_none, wi_some, we_lr1, we_lr2, we_call, we_call0, we_callB, we_callR, we_callK, we_callT, wipeE, restE, keepS, wt_yes, wt_tru, wt_boo, wt_not, wt_and, wt_or, wa_nil, wa_cons, wp_nil, wp_cons, wq_P, wq_S, wa_seq, wa_enum, wa_zip, wa_rng1, wa_rng2, ws_skip, ws_brk, ws_cont, ws_never, on_next, on_ret, on_brk, on_cont, ws_seq, ws_ret, ws_retN, ws_drop, ws_if, ws_set, ws_setB, ws_asg, ws_par, ws_for, wg_n, wg_t, wgs_nil, wgs_cons, ov_some, ov_none, ov_sr, ov_if, ov_st, ov_put_sh, ov_put_fr, intS_int, bolS_bool, seqS_l, seqS_t, lstS_l, lstF_fr, fAdd_ii, fAdd_ss, fAdd_ll, fAdd_tt, fI_ii, fIc_ii, fMul_ii, fMul_li, ov_fEq, ov_fNe, fCmp_ii, fIn_l, fNotIn_l, fNeg_i, ov_fIx_li, ov_fIx_ti, fSl_l, fSl_t, fLen_l, fLen_t, fLen_s, fInt_i, fInt_b, fAbs_i, fList_l, fList_t, fTuple_l, fTuple_t, fBits_i, ov_fRepr, fIsi_d, fIsN_n, isi_int_int, isi_int_bool, isi_int_str, isi_int_list, isi_int_tuple, isi_int_none, isi_bool_int, isi_bool_bool, isi_bool_str, isi_bool_list, isi_bool_tuple, isi_bool_none, isi_str_int, isi_str_bool, isi_str_str, isi_str_list, isi_str_tuple, isi_str_none, isi_list_int, isi_list_bool, isi_list_str, isi_list_list, isi_list_tuple, isi_list_none, isi_tuple_int, isi_tuple_bool, isi_tuple_str, isi_tuple_list, isi_tuple_tuple, isi_tuple_none, ok_sh, ok_fr, nkk_sh, nkk_fr, nkk_pk, frm_sh, frm_fr, frm_kk, sc_int, sc_bool, sc_str, sc_none, sc_list, sc_tuple, tru_bool, tru_int, tru_none, tru_list, tru_tuple, rd_val, rd_own, rd_ro, rf_val, rf_own, so_un, so_val, so_own, sg_un, sg_val, sg_own, sg_gen, nb_un, nb_val, nb_own, nb_ro, bo_bor, bo_gen, ro_ro, re_bor, re_gen, ov_backN, ov_backS, ov_lend, setV_own, setV_bor, setV_gen, adr_own, adr_bor, adr_gen, ws_setIx, ws_app, fMax2, fMin2, fSub, fFdiv, fMod, fPow, fShl, fShr, fAnd, fOr, fXor, fLt, fLe, fGt, fGe, List.getElem?_cons_zero, List.getElem?_cons_succ, List.set_cons_zero, List.set_cons_succ, List.length_cons, List.length_nil, List.all_cons, List.all_nil, List.isEmpty_cons, List.isEmpty_nil, List.filterMap_cons, List.filterMap_nil, Option.isSome_some, Bool.not_true, Bool.not_false, Bool.and_true, Bool.true_and, Bool.and_false, Bool.false_and, Bool.or_false, Bool.false_or, Bool.or_true, Bool.true_or, if_true, if_false, Bool.false_eq_true, true_and, and_true, false_and, and_false, Option.isSome_none, reduceCtorEq, decide_eq_true_eq, rv_ret, rv_next, ov_endN, ov_endR, ov_endB, refR_sh, refR_fr]
    refine ⟨?_, ?_⟩
    · rw [List.length_map, bits_len, sizeLine_eq]
      omega
    · rw [show (w - 0).toNat = w.toNat by omega]
/-- the word of some bits -/
def wordV : List Int → Int
  | [] => 0
  | b :: r => b + 2 * wordV r
def IsBits (bs : List Int) : Prop := ∀ b ∈ bs, b = 0 ∨ b = 1
theorem sum_zipK : ∀ (bs : List Int) (k : Nat), ((bs.zipIdx k).map fun p => p.1 * 2 ^ p.2).sum = 2 ^ k * wordV bs
  | [], k => by simp [wordV]
  | b :: r, k => by
    rw [List.zipIdx_cons, List.map_cons, List.sum_cons, sum_zipK r (k + 1)]
    show b * 2 ^ k + 2 ^ (k + 1) * wordV r = 2 ^ k * (b + 2 * wordV r)
    rw [Int.pow_succ, Int.mul_add, Int.mul_comm b, Int.mul_assoc]
theorem sum_zip {bs : List Int} : ((bs.zipIdx).map fun p => p.1 * 2 ^ p.2).sum = wordV bs := by rw [sum_zipK, Int.pow_zero, Int.one_mul]
theorem wob_ok {bs : List Int} (hb : IsBits bs) (hl : bs.length ≤ 64) : FV F_word_of_bits [] [.list (bs.map .int)] fun r gs => r = ⟨.int (wordV bs), false, .sh⟩ := by
  refine fv_run ?_
  show SV u_word_of_bits [.val true (.list (bs.map .int)), .un, .un] _
  unfold u_word_of_bits
  simp only [we_lit, we_globL, we_var, we_varF, we_1, we_2, we_lst, we_tup, we_not, we_and, we_or, we_if, we_borIx, we_sl, wi_none, wi_some, we_lr1, we_lr2, we_call, we_call0, we_callB, we_callR, we_callK, we_callT, wipeE, restE, keepS, wt_yes, wt_tru, wt_boo, wt_not, wt_and, wt_or, wa_nil, wa_cons, wp_nil, wp_cons, wq_P, wq_S, wa_seq, wa_enum, wa_zip, wa_rng1, wa_rng2, ws_skip, ws_brk, ws_cont, ws_never, on_next, on_ret, on_brk, on_cont, ws_seq, ws_ret, ws_retN, ws_drop, ws_if, ws_set, ws_setB, ws_asg, ws_par, ws_for, wg_n, wg_t, wgs_nil, wgs_cons, ov_some, ov_none, ov_sr, ov_if, ov_st, ov_put_sh, ov_put_fr, intS_int, bolS_bool, seqS_l, seqS_t, lstS_l, lstF_fr, fAdd_ii, fAdd_ss, fAdd_ll, fAdd_tt, fI_ii, fIc_ii, fMul_ii, fMul_li, ov_fEq, ov_fNe, fCmp_ii, fIn_l, fNotIn_l, fNeg_i, ov_fIx_li, ov_fIx_ti, fSl_l, fSl_t, fLen_l, fLen_t, fLen_s, fInt_i, fInt_b, fAbs_i, fList_l, fList_t, fTuple_l, fTuple_t, fBits_i, ov_fRepr, fIsi_d, fIsN_n, isi_int_int, isi_int_bool, isi_int_str, isi_int_list, isi_int_tuple, isi_int_none, isi_bool_int, isi_bool_bool, isi_bool_str, isi_bool_list, isi_bool_tuple, isi_bool_none, isi_str_int, isi_str_bool, isi_str_str, isi_str_list, isi_str_tuple, isi_str_none, isi_list_int, isi_list_bool, isi_list_str, isi_list_list, isi_list_tuple, isi_list_none, isi_tuple_int, isi_tuple_bool, isi_tuple_str, isi_tuple_list, isi_tuple_tuple, isi_tuple_none, ok_sh, ok_fr, nkk_sh, nkk_fr, nkk_pk, frm_sh, frm_fr, frm_kk, sc_int, sc_bool, sc_str, sc_none, sc_list, sc_tuple, tru_bool, tru_int, tru_none, tru_list, tru_tuple, rd_val, rd_own, rd_ro, rf_val, rf_own, so_un, so_val, so_own, sg_un, sg_val, sg_own, sg_gen, nb_un, nb_val, nb_own, nb_ro, bo_bor, bo_gen, ro_ro, re_bor, re_gen, ov_backN, ov_backS, ov_lend, setV_own, setV_bor, setV_gen, adr_own, adr_bor, adr_gen, ws_setIx, ws_app, fMax2, fMin2, fSub, fFdiv, fMod, fPow, fShl, fShr, fAnd, fOr, fXor, fLt, fLe, fGt, fGe, List.getElem?_cons_zero, List.getElem?_cons_succ, List.set_cons_zero, List.set_cons_succ, List.length_cons, List.length_nil, List.all_cons, List.all_nil, List.isEmpty_cons, List.isEmpty_nil, List.filterMap_cons, List.filterMap_nil, Option.isSome_some, Bool.not_true, Bool.not_false, Bool.and_true, Bool.true_and, Bool.and_false, Bool.false_and, Bool.or_false, Bool.false_or, Bool.or_true, Bool.true_or, if_true, if_false, Bool.false_eq_true, true_and, and_true, false_and, and_false, Option.isSome_none, reduceCtorEq, decide_eq_true_eq, rv_ret, rv_next, ov_endN, ov_endR, ov_endB, refR_sh, refR_fr, we_lc]
  rw [if_neg (by rw [List.length_map]; omega)]
  refine lc_inv (fun i acc ρ => acc = [] ∧ ρ = [.val true (.list (bs.map .int)), .un, .un]) ⟨rfl, rfl⟩ ?_ ?_
  · rintro i d acc ρ hd ⟨rfl, rfl⟩
    obtain ⟨y, hy, rfl⟩ := map_get hd
    have hy01 := hb y (List.mem_of_getElem? hy)
    simp only [we_lit, we_globL, we_var, we_varF, we_1, we_2, we_lst, we_tup, we_not, we_and, we_or, we_if, we_borIx, we_sl, wi_none, wi_some, we_lr1, we_lr2, we_call, we_call0, we_callB, we_callR, we_callK, we_callT, wipeE, restE, keepS, wt_yes, wt_tru, wt_boo, wt_not, wt_and, wt_or, wa_nil, wa_cons, wp_nil, wp_cons, wq_P, wq_S, wa_seq, wa_enum, wa_zip, wa_rng1, wa_rng2, ws_skip, ws_brk, ws_cont, ws_never, on_next, on_ret, on_brk, on_cont, ws_seq, ws_ret, ws_retN, ws_drop, ws_if, ws_set, ws_setB, ws_asg, ws_par, ws_for, wg_n, wg_t, wgs_nil, wgs_cons, ov_some, ov_none, ov_sr, ov_if, ov_st, ov_put_sh, ov_put_fr, intS_int, bolS_bool, seqS_l, seqS_t, lstS_l, lstF_fr, fAdd_ii, fAdd_ss, fAdd_ll, fAdd_tt, fI_ii, fIc_ii, fMul_ii, fMul_li, ov_fEq, ov_fNe, fCmp_ii, fIn_l, fNotIn_l, fNeg_i, ov_fIx_li, ov_fIx_ti, fSl_l, fSl_t, fLen_l, fLen_t, fLen_s, fInt_i, fInt_b, fAbs_i, fList_l, fList_t, fTuple_l, fTuple_t, fBits_i, ov_fRepr, fIsi_d, fIsN_n, isi_int_int, isi_int_bool, isi_int_str, isi_int_list, isi_int_tuple, isi_int_none, isi_bool_int, isi_bool_bool, isi_bool_str, isi_bool_list, isi_bool_tuple, isi_bool_none, isi_str_int, isi_str_bool, isi_str_str, isi_str_list, isi_str_tuple, isi_str_none, isi_list_int, isi_list_bool, isi_list_str, isi_list_list, isi_list_tuple, isi_list_none, isi_tuple_int, isi_tuple_bool, isi_tuple_str, isi_tuple_list, isi_tuple_tuple, isi_tuple_none, ok_sh, ok_fr, nkk_sh, nkk_fr, nkk_pk, frm_sh, frm_fr, frm_kk, sc_int, sc_bool, sc_str, sc_none, sc_list, sc_tuple, tru_bool, tru_int, tru_none, tru_list, tru_tuple, rd_val, rd_own, rd_ro, rf_val, rf_own, so_un, so_val, so_own, sg_un, sg_val, sg_own, sg_gen, nb_un, nb_val, nb_own, nb_ro, bo_bor, bo_gen, ro_ro, re_bor, re_gen, ov_backN, ov_backS, ov_lend, setV_own, setV_bor, setV_gen, adr_own, adr_bor, adr_gen, ws_setIx, ws_app, fMax2, fMin2, fSub, fFdiv, fMod, fPow, fShl, fShr, fAnd, fOr, fXor, fLt, fLe, fGt, fGe, List.getElem?_cons_zero, List.getElem?_cons_succ, List.set_cons_zero, List.set_cons_succ, List.length_cons, List.length_nil, List.all_cons, List.all_nil, List.isEmpty_cons, List.isEmpty_nil, List.filterMap_cons, List.filterMap_nil, Option.isSome_some, Bool.not_true, Bool.not_false, Bool.and_true, Bool.true_and, Bool.and_false, Bool.false_and, Bool.or_false, Bool.false_or, Bool.or_true, Bool.true_or, if_true, if_false, Bool.false_eq_true, true_and, and_true, false_and, and_false, Option.isSome_none, reduceCtorEq, decide_eq_true_eq, rv_ret, rv_next, ov_endN, ov_endR, ov_endB, refR_sh, refR_fr]
    refine fv_mono count_int ?_
    rintro r g rfl
    have h0 : 0 ≤ y := by omega
    have h1 : ¬ 1 < y := by omega
    simp only [we_lit, we_globL, we_var, we_varF, we_1, we_2, we_lst, we_tup, we_not, we_and, we_or, we_if, we_borIx, we_sl, wi_none, wi_some, we_lr1, we_lr2, we_call, we_call0, we_callB, we_callR, we_callK, we_callT, wipeE, restE, keepS, wt_yes, wt_tru, wt_boo, wt_not, wt_and, wt_or, wa_nil, wa_cons, wp_nil, wp_cons, wq_P, wq_S, wa_seq, wa_enum, wa_zip, wa_rng1, wa_rng2, ws_skip, ws_brk, ws_cont, ws_never, on_next, on_ret, on_brk, on_cont, ws_seq, ws_ret, ws_retN, ws_drop, ws_if, ws_set, ws_setB, ws_asg, ws_par, ws_for, wg_n, wg_t, wgs_nil, wgs_cons, ov_some, ov_none, ov_sr, ov_if, ov_st, ov_put_sh, ov_put_fr, intS_int, bolS_bool, seqS_l, seqS_t, lstS_l, lstF_fr, fAdd_ii, fAdd_ss, fAdd_ll, fAdd_tt, fI_ii, fIc_ii, fMul_ii, fMul_li, ov_fEq, ov_fNe, fCmp_ii, fIn_l, fNotIn_l, fNeg_i, ov_fIx_li, ov_fIx_ti, fSl_l, fSl_t, fLen_l, fLen_t, fLen_s, fInt_i, fInt_b, fAbs_i, fList_l, fList_t, fTuple_l, fTuple_t, fBits_i, ov_fRepr, fIsi_d, fIsN_n, isi_int_int, isi_int_bool, isi_int_str, isi_int_list, isi_int_tuple, isi_int_none, isi_bool_int, isi_bool_bool, isi_bool_str, isi_bool_list, isi_bool_tuple, isi_bool_none, isi_str_int, isi_str_bool, isi_str_str, isi_str_list, isi_str_tuple, isi_str_none, isi_list_int, isi_list_bool, isi_list_str, isi_list_list, isi_list_tuple, isi_list_none, isi_tuple_int, isi_tuple_bool, isi_tuple_str, isi_tuple_list, isi_tuple_tuple, isi_tuple_none, ok_sh, ok_fr, nkk_sh, nkk_fr, nkk_pk, frm_sh, frm_fr, frm_kk, sc_int, sc_bool, sc_str, sc_none, sc_list, sc_tuple, tru_bool, tru_int, tru_none, tru_list, tru_tuple, rd_val, rd_own, rd_ro, rf_val, rf_own, so_un, so_val, so_own, sg_un, sg_val, sg_own, sg_gen, nb_un, nb_val, nb_own, nb_ro, bo_bor, bo_gen, ro_ro, re_bor, re_gen, ov_backN, ov_backS, ov_lend, setV_own, setV_bor, setV_gen, adr_own, adr_bor, adr_gen, ws_setIx, ws_app, fMax2, fMin2, fSub, fFdiv, fMod, fPow, fShl, fShr, fAnd, fOr, fXor, fLt, fLe, fGt, fGe, List.getElem?_cons_zero, List.getElem?_cons_succ, List.set_cons_zero, List.set_cons_succ, List.length_cons, List.length_nil, List.all_cons, List.all_nil, List.isEmpty_cons, List.isEmpty_nil, List.filterMap_cons, List.filterMap_nil, Option.isSome_some, Bool.not_true, Bool.not_false, Bool.and_true, Bool.true_and, Bool.and_false, Bool.false_and, Bool.or_false, Bool.false_or, Bool.or_true, Bool.true_or, if_true, if_false, Bool.false_eq_true, true_and, and_true, false_and, and_false, Option.isSome_none, reduceCtorEq, decide_eq_true_eq, rv_ret, rv_next, ov_endN, ov_endR, ov_endB, refR_sh, refR_fr, h0, h1, decide_true, decide_false]
  rintro out ρ' ⟨rfl, rfl⟩
  simp only [we_lit, we_globL, we_var, we_varF, we_1, we_2, we_lst, we_tup, we_not, we_and, we_or, we_if, we_borIx, we_sl, wi_none, wi_some, we_lr1, we_lr2, we_call, we_call0, we_callB, we_callR, we_callK, we_callT, wipeE, restE, keepS, wt_yes, wt_tru, wt_boo, wt_not, wt_and, wt_or, wa_nil, wa_cons, wp_nil, wp_cons, wq_P, wq_S, wa_seq, wa_enum, wa_zip, wa_rng1, wa_rng2, ws_skip, ws_brk, ws_cont, ws_never, on_next, on_ret, on_brk, on_cont, ws_seq, ws_ret, ws_retN, ws_drop, ws_if, ws_set, ws_setB, ws_asg, ws_par, ws_for, wg_n, wg_t, wgs_nil, wgs_cons, ov_some, ov_none, ov_sr, ov_if, ov_st, ov_put_sh, ov_put_fr, intS_int, bolS_bool, seqS_l, seqS_t, lstS_l, lstF_fr, fAdd_ii, fAdd_ss, fAdd_ll, fAdd_tt, fI_ii, fIc_ii, fMul_ii, fMul_li, ov_fEq, ov_fNe, fCmp_ii, fIn_l, fNotIn_l, fNeg_i, ov_fIx_li, ov_fIx_ti, fSl_l, fSl_t, fLen_l, fLen_t, fLen_s, fInt_i, fInt_b, fAbs_i, fList_l, fList_t, fTuple_l, fTuple_t, fBits_i, ov_fRepr, fIsi_d, fIsN_n, isi_int_int, isi_int_bool, isi_int_str, isi_int_list, isi_int_tuple, isi_int_none, isi_bool_int, isi_bool_bool, isi_bool_str, isi_bool_list, isi_bool_tuple, isi_bool_none, isi_str_int, isi_str_bool, isi_str_str, isi_str_list, isi_str_tuple, isi_str_none, isi_list_int, isi_list_bool, isi_list_str, isi_list_list, isi_list_tuple, isi_list_none, isi_tuple_int, isi_tuple_bool, isi_tuple_str, isi_tuple_list, isi_tuple_tuple, isi_tuple_none, ok_sh, ok_fr, nkk_sh, nkk_fr, nkk_pk, frm_sh, frm_fr, frm_kk, sc_int, sc_bool, sc_str, sc_none, sc_list, sc_tuple, tru_bool, tru_int, tru_none, tru_list, tru_tuple, rd_val, rd_own, rd_ro, rf_val, rf_own, so_un, so_val, so_own, sg_un, sg_val, sg_own, sg_gen, nb_un, nb_val, nb_own, nb_ro, bo_bor, bo_gen, ro_ro, re_bor, re_gen, ov_backN, ov_backS, ov_lend, setV_own, setV_bor, setV_gen, adr_own, adr_bor, adr_gen, ws_setIx, ws_app, fMax2, fMin2, fSub, fFdiv, fMod, fPow, fShl, fShr, fAnd, fOr, fXor, fLt, fLe, fGt, fGe, List.getElem?_cons_zero, List.getElem?_cons_succ, List.set_cons_zero, List.set_cons_succ, List.length_cons, List.length_nil, List.all_cons, List.all_nil, List.isEmpty_cons, List.isEmpty_nil, List.filterMap_cons, List.filterMap_nil, Option.isSome_some, Bool.not_true, Bool.not_false, Bool.and_true, Bool.true_and, Bool.and_false, Bool.false_and, Bool.or_false, Bool.false_or, Bool.or_true, Bool.true_or, if_true, if_false, Bool.false_eq_true, true_and, and_true, false_and, and_false, Option.isSome_none, reduceCtorEq, decide_eq_true_eq, rv_ret, rv_next, ov_endN, ov_endR, ov_endB, refR_sh, refR_fr]
  refine ⟨Nat.zero_le _, Nat.zero_le _, rfl, ?_⟩
  rw [if_neg (by decide)]
  refine lc_inv (fun i acc ρ => acc = ((bs.take i).zipIdx.map fun p => p.1 * 2 ^ p.2).map .int ∧ ρ = [.val true (.list (bs.map .int)), .un, .un]) ⟨rfl, rfl⟩ ?_ ?_
  · rintro i d acc ρ hd ⟨rfl, rfl⟩
    obtain ⟨e, he, rfl⟩ := enumD_get hd
    obtain ⟨y, hy, rfl⟩ := map_get he
    have hy01 := hb y (List.mem_of_getElem? hy)
    have hi := (List.getElem?_eq_some_iff.mp hy).1
    simp only [we_lit, we_globL, we_var, we_varF, we_1, we_2, we_lst, we_tup, we_not, we_and, we_or, we_if, we_borIx, we_sl, wi_none, wi_some, we_lr1, we_lr2, we_call, we_call0, we_callB, we_callR, we_callK, we_callT, wipeE, restE, keepS, wt_yes, wt_tru, wt_boo, wt_not, wt_and, wt_or, wa_nil, wa_cons, wp_nil, wp_cons, wq_P, wq_S, wa_seq, wa_enum, wa_zip, wa_rng1, wa_rng2, ws_skip, ws_brk, ws_cont, ws_never, on_next, on_ret, on_brk, on_cont, ws_seq, ws_ret, ws_retN, ws_drop, ws_if, ws_set, ws_setB, ws_asg, ws_par, ws_for, wg_n, wg_t, wgs_nil, wgs_cons, ov_some, ov_none, ov_sr, ov_if, ov_st, ov_put_sh, ov_put_fr, intS_int, bolS_bool, seqS_l, seqS_t, lstS_l, lstF_fr, fAdd_ii, fAdd_ss, fAdd_ll, fAdd_tt, fI_ii, fIc_ii, fMul_ii, fMul_li, ov_fEq, ov_fNe, fCmp_ii, fIn_l, fNotIn_l, fNeg_i, ov_fIx_li, ov_fIx_ti, fSl_l, fSl_t, fLen_l, fLen_t, fLen_s, fInt_i, fInt_b, fAbs_i, fList_l, fList_t, fTuple_l, fTuple_t, fBits_i, ov_fRepr, fIsi_d, fIsN_n, isi_int_int, isi_int_bool, isi_int_str, isi_int_list, isi_int_tuple, isi_int_none, isi_bool_int, isi_bool_bool, isi_bool_str, isi_bool_list, isi_bool_tuple, isi_bool_none, isi_str_int, isi_str_bool, isi_str_str, isi_str_list, isi_str_tuple, isi_str_none, isi_list_int, isi_list_bool, isi_list_str, isi_list_list, isi_list_tuple, isi_list_none, isi_tuple_int, isi_tuple_bool, isi_tuple_str, isi_tuple_list, isi_tuple_tuple, isi_tuple_none, ok_sh, ok_fr, nkk_sh, nkk_fr, nkk_pk, frm_sh, frm_fr, frm_kk, sc_int, sc_bool, sc_str, sc_none, sc_list, sc_tuple, tru_bool, tru_int, tru_none, tru_list, tru_tuple, rd_val, rd_own, rd_ro, rf_val, rf_own, so_un, so_val, so_own, sg_un, sg_val, sg_own, sg_gen, nb_un, nb_val, nb_own, nb_ro, bo_bor, bo_gen, ro_ro, re_bor, re_gen, ov_backN, ov_backS, ov_lend, setV_own, setV_bor, setV_gen, adr_own, adr_bor, adr_gen, ws_setIx, ws_app, fMax2, fMin2, fSub, fFdiv, fMod, fPow, fShl, fShr, fAnd, fOr, fXor, fLt, fLe, fGt, fGe, List.getElem?_cons_zero, List.getElem?_cons_succ, List.set_cons_zero, List.set_cons_succ, List.length_cons, List.length_nil, List.all_cons, List.all_nil, List.isEmpty_cons, List.isEmpty_nil, List.filterMap_cons, List.filterMap_nil, Option.isSome_some, Bool.not_true, Bool.not_false, Bool.and_true, Bool.true_and, Bool.and_false, Bool.false_and, Bool.or_false, Bool.false_or, Bool.or_true, Bool.true_or, if_true, if_false, Bool.false_eq_true, true_and, and_true, false_and, and_false, Option.isSome_none, reduceCtorEq, decide_eq_true_eq, rv_ret, rv_next, ov_endN, ov_endR, ov_endB, refR_sh, refR_fr]
    refine ⟨⟨by omega, ?_⟩, ?_⟩
    · have : Builtin.Int.intBits y ≤ 1 := bits_lt (by omega)
      omega
    · rw [List.take_succ, hy, List.zipIdx_append, List.map_append, List.map_append, List.length_take, Nat.min_eq_left (Nat.le_of_lt hi)]
      simp
  rintro out ρ' ⟨rfl, rfl⟩
  have e : bs.take (bs.map PyData.int).length = bs := by rw [List.length_map, List.take_length]
  rw [enumD_len, e]
  simp only [we_lit, we_globL, we_var, we_varF, we_1, we_2, we_lst, we_tup, we_not, we_and, we_or, we_if, we_borIx, we_sl, wi_none, wi_some, we_lr1, we_lr2, we_call, we_call0, we_callB, we_callR, we_callK, we_callT, wipeE, restE, keepS, wt_yes, wt_tru, wt_boo, wt_not, wt_and, wt_or, wa_nil, wa_cons, wp_nil, wp_cons, wq_P, wq_S, wa_seq, wa_enum, wa_zip, wa_rng1, wa_rng2, ws_skip, ws_brk, ws_cont, ws_never, on_next, on_ret, on_brk, on_cont, ws_seq, ws_ret, ws_retN, ws_drop, ws_if, ws_set, ws_setB, ws_asg, ws_par, ws_for, wg_n, wg_t, wgs_nil, wgs_cons, ov_some, ov_none, ov_sr, ov_if, ov_st, ov_put_sh, ov_put_fr, intS_int, bolS_bool, seqS_l, seqS_t, lstS_l, lstF_fr, fAdd_ii, fAdd_ss, fAdd_ll, fAdd_tt, fI_ii, fIc_ii, fMul_ii, fMul_li, ov_fEq, ov_fNe, fCmp_ii, fIn_l, fNotIn_l, fNeg_i, ov_fIx_li, ov_fIx_ti, fSl_l, fSl_t, fLen_l, fLen_t, fLen_s, fInt_i, fInt_b, fAbs_i, fList_l, fList_t, fTuple_l, fTuple_t, fBits_i, ov_fRepr, fIsi_d, fIsN_n, isi_int_int, isi_int_bool, isi_int_str, isi_int_list, isi_int_tuple, isi_int_none, isi_bool_int, isi_bool_bool, isi_bool_str, isi_bool_list, isi_bool_tuple, isi_bool_none, isi_str_int, isi_str_bool, isi_str_str, isi_str_list, isi_str_tuple, isi_str_none, isi_list_int, isi_list_bool, isi_list_str, isi_list_list, isi_list_tuple, isi_list_none, isi_tuple_int, isi_tuple_bool, isi_tuple_str, isi_tuple_list, isi_tuple_tuple, isi_tuple_none, ok_sh, ok_fr, nkk_sh, nkk_fr, nkk_pk, frm_sh, frm_fr, frm_kk, sc_int, sc_bool, sc_str, sc_none, sc_list, sc_tuple, tru_bool, tru_int, tru_none, tru_list, tru_tuple, rd_val, rd_own, rd_ro, rf_val, rf_own, so_un, so_val, so_own, sg_un, sg_val, sg_own, sg_gen, nb_un, nb_val, nb_own, nb_ro, bo_bor, bo_gen, ro_ro, re_bor, re_gen, ov_backN, ov_backS, ov_lend, setV_own, setV_bor, setV_gen, adr_own, adr_bor, adr_gen, ws_setIx, ws_app, fMax2, fMin2, fSub, fFdiv, fMod, fPow, fShl, fShr, fAnd, fOr, fXor, fLt, fLe, fGt, fGe, List.getElem?_cons_zero, List.getElem?_cons_succ, List.set_cons_zero, List.set_cons_succ, List.length_cons, List.length_nil, List.all_cons, List.all_nil, List.isEmpty_cons, List.isEmpty_nil, List.filterMap_cons, List.filterMap_nil, Option.isSome_some, Bool.not_true, Bool.not_false, Bool.and_true, Bool.true_and, Bool.and_false, Bool.false_and, Bool.or_false, Bool.false_or, Bool.or_true, Bool.true_or, if_true, if_false, Bool.false_eq_true, true_and, and_true, false_and, and_false, Option.isSome_none, reduceCtorEq, decide_eq_true_eq, rv_ret, rv_next, ov_endN, ov_endR, ov_endB, refR_sh, refR_fr, fSum_l, sum_zip]
  rw [List.length_map, List.length_map, List.length_zipIdx, sizeLine_eq]
  omega
theorem bits_cons {n : Nat} {x : Int} : bits (n + 1) x = x % 2 :: bits n (x / 2) := by
  unfold bits
  rw [List.range_succ_eq_map, List.map_cons, List.map_map]
  congr 1
  · simp
  · refine List.map_congr_left fun k _ => ?_
    show x / 2 ^ (k + 1) % 2 = x / 2 / 2 ^ k % 2
    rw [Int.ediv_ediv_of_nonneg (by decide), Int.pow_succ, Int.mul_comm]
theorem wordV_bits : ∀ (n : Nat) (x : Int), 0 ≤ x → x < 2 ^ n → wordV (bits n x) = x
  | 0, x, h0, h1 => by
    have : x = 0 := by simp at h1; omega
    subst this
    rfl
  | n + 1, x, h0, h1 => by
    rw [bits_cons]
    show x % 2 + 2 * wordV (bits n (x / 2)) = x
    rw [wordV_bits n (x / 2) (by omega) (by rw [Int.pow_succ] at h1; omega)]
    omega
theorem wordV_app : ∀ (a b : List Int), wordV (a ++ b) = wordV a + 2 ^ a.length * wordV b
  | [], b => by simp [wordV]
  | x :: a, b => by
    show x + 2 * wordV (a ++ b) = x + 2 * wordV a + 2 ^ (a.length + 1) * wordV b
    rw [wordV_app a b, Int.mul_add, Int.pow_succ, Int.mul_comm ((2 : Int) ^ a.length) 2, Int.mul_assoc, Int.add_assoc]
theorem bits_is {n : Nat} {x : Int} : IsBits (bits n x) := fun b hb => by
  unfold bits at hb
  obtain ⟨k, _, rfl⟩ := List.mem_map.mp hb
  omega
theorem two_ok {z : Int} (h0 : 0 ≤ z) (h1 : z ≤ 1000) : FV F__law_two [] [.int z] fun r gs => r = ⟨.int (2 ^ z.toNat), false, .sh⟩ := by
  refine fv_run ?_
  show SV u__law_two [.val false (.int z)] _
  unfold u__law_two
  simp only [we_lit, we_globL, we_var, we_varF, we_1, we_2, we_lst, we_tup, we_not, we_and, we_or, we_if, we_borIx, we_sl, wi_none, wi_some, we_lr1, we_lr2, we_call, we_call0, we_callB, we_callR, we_callK, we_callT, wipeE, restE, keepS, wt_yes, wt_tru, wt_boo, wt_not, wt_and, wt_or, wa_nil, wa_cons, wp_nil, wp_cons, wq_P, wq_S, wa_seq, wa_enum, wa_zip, wa_rng1, wa_rng2, ws_skip, ws_brk, ws_cont, ws_never, on_next, on_ret, on_brk, on_cont, ws_seq, ws_ret, ws_retN, ws_drop, ws_if, ws_set, ws_setB, ws_asg, ws_par, ws_for, wg_n, wg_t, wgs_nil, wgs_cons, ov_some, ov_none, ov_sr, ov_if, ov_st, ov_put_sh, ov_put_fr, intS_int, bolS_bool, seqS_l, seqS_t, lstS_l, lstF_fr, fAdd_ii, fAdd_ss, fAdd_ll, fAdd_tt, fI_ii, fIc_ii, fMul_ii, fMul_li, ov_fEq, ov_fNe, fCmp_ii, fIn_l, fNotIn_l, fNeg_i, ov_fIx_li, ov_fIx_ti, fSl_l, fSl_t, fLen_l, fLen_t, fLen_s, fInt_i, fInt_b, fAbs_i, fList_l, fList_t, fTuple_l, fTuple_t, fBits_i, ov_fRepr, fIsi_d, fIsN_n, isi_int_int, isi_int_bool, isi_int_str, isi_int_list, isi_int_tuple, isi_int_none, isi_bool_int, isi_bool_bool, isi_bool_str, isi_bool_list, isi_bool_tuple, isi_bool_none, isi_str_int, isi_str_bool, isi_str_str, isi_str_list, isi_str_tuple, isi_str_none, isi_list_int, isi_list_bool, isi_list_str, isi_list_list, isi_list_tuple, isi_list_none, isi_tuple_int, isi_tuple_bool, isi_tuple_str, isi_tuple_list, isi_tuple_tuple, isi_tuple_none, ok_sh, ok_fr, nkk_sh, nkk_fr, nkk_pk, frm_sh, frm_fr, frm_kk, sc_int, sc_bool, sc_str, sc_none, sc_list, sc_tuple, tru_bool, tru_int, tru_none, tru_list, tru_tuple, rd_val, rd_own, rd_ro, rf_val, rf_own, so_un, so_val, so_own, sg_un, sg_val, sg_own, sg_gen, nb_un, nb_val, nb_own, nb_ro, bo_bor, bo_gen, ro_ro, re_bor, re_gen, ov_backN, ov_backS, ov_lend, setV_own, setV_bor, setV_gen, adr_own, adr_bor, adr_gen, ws_setIx, ws_app, fMax2, fMin2, fSub, fFdiv, fMod, fPow, fShl, fShr, fAnd, fOr, fXor, fLt, fLe, fGt, fGe, List.getElem?_cons_zero, List.getElem?_cons_succ, List.set_cons_zero, List.set_cons_succ, List.length_cons, List.length_nil, List.all_cons, List.all_nil, List.isEmpty_cons, List.isEmpty_nil, List.filterMap_cons, List.filterMap_nil, Option.isSome_some, Bool.not_true, Bool.not_false, Bool.and_true, Bool.true_and, Bool.and_false, Bool.false_and, Bool.or_false, Bool.false_or, Bool.or_true, Bool.true_or, if_true, if_false, Bool.false_eq_true, true_and, and_true, false_and, and_false, Option.isSome_none, reduceCtorEq, decide_eq_true_eq, rv_ret, rv_next, ov_endN, ov_endR, ov_endB, refR_sh, refR_fr, Int.one_mul]
  exact ⟨h0, by have : Builtin.Int.intBits 1 = 1 := by decide
                rw [this]; omega⟩
theorem fine_bits {n : Nat} {x : Int} (h : n ≤ 64) : fine (.list ((bits n x).map .int)) := fine_ints (fun b hb => by rcases bits_is b hb with rfl | rfl <;> decide) (by rw [bits_len]; omega)
theorem inner_ok {gs : List PyData} {w z : Int} {s2 s3 s4 s5 s6 : Slot} {P : Fl → En → Prop} (h0 : 0 ≤ w) (h1 : w ≤ 64) (hz : 0 ≤ z) (hz2 : z < 2 ^ 64) (h5 : setOk s5 = true)
    (k : ∀ s5', setOk s5' = true → P .next [.bor gs, .val false (.int w), s2, s3, s4, s5', s6, .own false ((bits w.toNat z).map .int), .val false (.int (z / 2 ^ w.toNat))]) :
    SV (forL (gN 5) false v__law_right_1 (rngD 0 w)) [.bor gs, .val false (.int w), s2, s3, s4, s5, s6, .own false [], .val false (.int z)] P := by
  refine for_inv (fun i ρ => ∃ s5', setOk s5' = true ∧ ρ = [.bor gs, .val false (.int w), s2, s3, s4, s5', s6, .own false ((bits i z).map .int), .val false (.int (z / 2 ^ i))]) ⟨s5, h5, by simp [bits]⟩ ?_ ?_
  · rintro i d ρ hd ⟨s5', h5', rfl⟩
    obtain ⟨y, rfl, hy, hy2⟩ := rngD_get hd
    unfold v__law_right_1
    simp only [we_lit, we_globL, we_var, we_varF, we_1, we_2, we_lst, we_tup, we_not, we_and, we_or, we_if, we_borIx, we_sl, wi_none, wi_some, we_lr1, we_lr2, we_call, we_call0, we_callB, we_callR, we_callK, we_callT, wipeE, restE, keepS, wt_yes, wt_tru, wt_boo, wt_not, wt_and, wt_or, wa_nil, wa_cons, wp_nil, wp_cons, wq_P, wq_S, wa_seq, wa_enum, wa_zip, wa_rng1, wa_rng2, ws_skip, ws_brk, ws_cont, ws_never, on_next, on_ret, on_brk, on_cont, ws_seq, ws_ret, ws_retN, ws_drop, ws_if, ws_set, ws_setB, ws_asg, ws_par, ws_for, wg_n, wg_t, wgs_nil, wgs_cons, ov_some, ov_none, ov_sr, ov_if, ov_st, ov_put_sh, ov_put_fr, intS_int, bolS_bool, seqS_l, seqS_t, lstS_l, lstF_fr, fAdd_ii, fAdd_ss, fAdd_ll, fAdd_tt, fI_ii, fIc_ii, fMul_ii, fMul_li, ov_fEq, ov_fNe, fCmp_ii, fIn_l, fNotIn_l, fNeg_i, ov_fIx_li, ov_fIx_ti, fSl_l, fSl_t, fLen_l, fLen_t, fLen_s, fInt_i, fInt_b, fAbs_i, fList_l, fList_t, fTuple_l, fTuple_t, fBits_i, ov_fRepr, fIsi_d, fIsN_n, isi_int_int, isi_int_bool, isi_int_str, isi_int_list, isi_int_tuple, isi_int_none, isi_bool_int, isi_bool_bool, isi_bool_str, isi_bool_list, isi_bool_tuple, isi_bool_none, isi_str_int, isi_str_bool, isi_str_str, isi_str_list, isi_str_tuple, isi_str_none, isi_list_int, isi_list_bool, isi_list_str, isi_list_list, isi_list_tuple, isi_list_none, isi_tuple_int, isi_tuple_bool, isi_tuple_str, isi_tuple_list, isi_tuple_tuple, isi_tuple_none, ok_sh, ok_fr, nkk_sh, nkk_fr, nkk_pk, frm_sh, frm_fr, frm_kk, sc_int, sc_bool, sc_str, sc_none, sc_list, sc_tuple, tru_bool, tru_int, tru_none, tru_list, tru_tuple, rd_val, rd_own, rd_ro, rf_val, rf_own, so_un, so_val, so_own, sg_un, sg_val, sg_own, sg_gen, nb_un, nb_val, nb_own, nb_ro, bo_bor, bo_gen, ro_ro, re_bor, re_gen, ov_backN, ov_backS, ov_lend, setV_own, setV_bor, setV_gen, adr_own, adr_bor, adr_gen, ws_setIx, ws_app, fMax2, fMin2, fSub, fFdiv, fMod, fPow, fShl, fShr, fAnd, fOr, fXor, fLt, fLe, fGt, fGe, List.getElem?_cons_zero, List.getElem?_cons_succ, List.set_cons_zero, List.set_cons_succ, List.length_cons, List.length_nil, List.all_cons, List.all_nil, List.isEmpty_cons, List.isEmpty_nil, List.filterMap_cons, List.filterMap_nil, Option.isSome_some, Bool.not_true, Bool.not_false, Bool.and_true, Bool.true_and, Bool.and_false, Bool.false_and, Bool.or_false, Bool.false_or, Bool.or_true, Bool.true_or, if_true, if_false, Bool.false_eq_true, true_and, and_true, false_and, and_false, Option.isSome_none, reduceCtorEq, decide_eq_true_eq, rv_ret, rv_next, ov_endN, ov_endR, ov_endB, refR_sh, refR_fr, h5']
    have hzi : (z / 2 ^ i / 2).natAbs < 2 ^ 100 := by
      have h3 : z / 2 ^ i / 2 ≤ z := Int.le_trans (Int.ediv_le_self _ (Int.ediv_nonneg hz (Int.le_of_lt (Int.pow_pos (by decide))))) (Int.ediv_le_self _ hz)
      have h4 : 0 ≤ z / 2 ^ i / 2 := Int.ediv_nonneg (Int.ediv_nonneg hz (Int.le_of_lt (Int.pow_pos (by decide)))) (by decide)
      omega
    refine ⟨⟨by decide, by decide⟩, mulC_of 10 100 (by decide) hzi, by decide, ⟨by decide, by decide, ?_⟩, ⟨by decide, by decide⟩, .val false (.int y), so_val, ?_⟩
    · rw [List.length_map, bits_len, sizeLine_eq]
      omega
    · rw [bits_succ, List.map_append, Int.pow_succ, Int.ediv_ediv_of_nonneg (Int.le_of_lt (Int.pow_pos (by decide))), show z / 2 ^ i - 2 * (z / (2 ^ i * 2)) = z / 2 ^ i % 2 by
        rw [← Int.ediv_ediv_of_nonneg (Int.le_of_lt (Int.pow_pos (by decide)))]
        omega]
      rfl
  · rintro ρ ⟨s5', h5', rfl⟩
    rw [rngD_len, show (w - 0).toNat = w.toNat by omega]
    exact k s5' h5'
theorem body_ok {gs : List PyData} {w z : Int} {s2 s3 s5 s6 s7 s8 : Slot} (h0 : 0 ≤ w) (h1 : w ≤ 64) (hz : 0 ≤ z) (hz2 : z < 2 ^ w.toNat) (h5 : setOk s5 = true) (h6 : setOk s6 = true) (h7 : setOk s7 = true) (h8 : setOk s8 = true) :
    SV v__law_right_2 [.bor gs, .val false (.int w), s2, s3, .val false (.int z), s5, s6, s7, s8] fun fl ρ => fl = .next ∧ ∃ s5 s6 s7 s8, ρ = [.bor gs, .val false (.int w), s2, s3, .val false (.int z), s5, s6, s7, s8] ∧ setOk s5 = true ∧ setOk s6 = true ∧ setOk s7 = true ∧ setOk s8 = true := by
  unfold v__law_right_2
  simp only [we_lit, we_globL, we_var, we_varF, we_1, we_2, we_lst, we_tup, we_not, we_and, we_or, we_if, we_borIx, we_sl, wi_none, wi_some, we_lr1, we_lr2, we_call, we_call0, we_callB, we_callR, we_callK, we_callT, wipeE, restE, keepS, wt_yes, wt_tru, wt_boo, wt_not, wt_and, wt_or, wa_nil, wa_cons, wp_nil, wp_cons, wq_P, wq_S, wa_seq, wa_enum, wa_zip, wa_rng1, wa_rng2, ws_skip, ws_brk, ws_cont, ws_never, on_next, on_ret, on_brk, on_cont, ws_seq, ws_ret, ws_retN, ws_drop, ws_if, ws_set, ws_setB, ws_asg, ws_par, ws_for, wg_n, wg_t, wgs_nil, wgs_cons, ov_some, ov_none, ov_sr, ov_if, ov_st, ov_put_sh, ov_put_fr, intS_int, bolS_bool, seqS_l, seqS_t, lstS_l, lstF_fr, fAdd_ii, fAdd_ss, fAdd_ll, fAdd_tt, fI_ii, fIc_ii, fMul_ii, fMul_li, ov_fEq, ov_fNe, fCmp_ii, fIn_l, fNotIn_l, fNeg_i, ov_fIx_li, ov_fIx_ti, fSl_l, fSl_t, fLen_l, fLen_t, fLen_s, fInt_i, fInt_b, fAbs_i, fList_l, fList_t, fTuple_l, fTuple_t, fBits_i, ov_fRepr, fIsi_d, fIsN_n, isi_int_int, isi_int_bool, isi_int_str, isi_int_list, isi_int_tuple, isi_int_none, isi_bool_int, isi_bool_bool, isi_bool_str, isi_bool_list, isi_bool_tuple, isi_bool_none, isi_str_int, isi_str_bool, isi_str_str, isi_str_list, isi_str_tuple, isi_str_none, isi_list_int, isi_list_bool, isi_list_str, isi_list_list, isi_list_tuple, isi_list_none, isi_tuple_int, isi_tuple_bool, isi_tuple_str, isi_tuple_list, isi_tuple_tuple, isi_tuple_none, ok_sh, ok_fr, nkk_sh, nkk_fr, nkk_pk, frm_sh, frm_fr, frm_kk, sc_int, sc_bool, sc_str, sc_none, sc_list, sc_tuple, tru_bool, tru_int, tru_none, tru_list, tru_tuple, rd_val, rd_own, rd_ro, rf_val, rf_own, so_un, so_val, so_own, sg_un, sg_val, sg_own, sg_gen, nb_un, nb_val, nb_own, nb_ro, bo_bor, bo_gen, ro_ro, re_bor, re_gen, ov_backN, ov_backS, ov_lend, setV_own, setV_bor, setV_gen, adr_own, adr_bor, adr_gen, ws_setIx, ws_app, fMax2, fMin2, fSub, fFdiv, fMod, fPow, fShl, fShr, fAnd, fOr, fXor, fLt, fLe, fGt, fGe, List.getElem?_cons_zero, List.getElem?_cons_succ, List.set_cons_zero, List.set_cons_succ, List.length_cons, List.length_nil, List.all_cons, List.all_nil, List.isEmpty_cons, List.isEmpty_nil, List.filterMap_cons, List.filterMap_nil, Option.isSome_some, Bool.not_true, Bool.not_false, Bool.and_true, Bool.true_and, Bool.and_false, Bool.false_and, Bool.or_false, Bool.false_or, Bool.or_true, Bool.true_or, if_true, if_false, Bool.false_eq_true, true_and, and_true, false_and, and_false, Option.isSome_none, reduceCtorEq, decide_eq_true_eq, rv_ret, rv_next, ov_endN, ov_endR, ov_endB, refR_sh, refR_fr, h5, h6, h7, h8]
  have hw : w.toNat ≤ 64 := by omega
  have hz64 : z < 2 ^ 64 := Int.lt_of_lt_of_le hz2 (two_le hw)
  refine ⟨Nat.zero_le _, rngOk_of2 (by omega) (by omega), inner_ok h0 h1 hz hz64 h5 fun s5' h5' => ?_⟩
  simp only [we_lit, we_globL, we_var, we_varF, we_1, we_2, we_lst, we_tup, we_not, we_and, we_or, we_if, we_borIx, we_sl, wi_none, wi_some, we_lr1, we_lr2, we_call, we_call0, we_callB, we_callR, we_callK, we_callT, wipeE, restE, keepS, wt_yes, wt_tru, wt_boo, wt_not, wt_and, wt_or, wa_nil, wa_cons, wp_nil, wp_cons, wq_P, wq_S, wa_seq, wa_enum, wa_zip, wa_rng1, wa_rng2, ws_skip, ws_brk, ws_cont, ws_never, on_next, on_ret, on_brk, on_cont, ws_seq, ws_ret, ws_retN, ws_drop, ws_if, ws_set, ws_setB, ws_asg, ws_par, ws_for, wg_n, wg_t, wgs_nil, wgs_cons, ov_some, ov_none, ov_sr, ov_if, ov_st, ov_put_sh, ov_put_fr, intS_int, bolS_bool, seqS_l, seqS_t, lstS_l, lstF_fr, fAdd_ii, fAdd_ss, fAdd_ll, fAdd_tt, fI_ii, fIc_ii, fMul_ii, fMul_li, ov_fEq, ov_fNe, fCmp_ii, fIn_l, fNotIn_l, fNeg_i, ov_fIx_li, ov_fIx_ti, fSl_l, fSl_t, fLen_l, fLen_t, fLen_s, fInt_i, fInt_b, fAbs_i, fList_l, fList_t, fTuple_l, fTuple_t, fBits_i, ov_fRepr, fIsi_d, fIsN_n, isi_int_int, isi_int_bool, isi_int_str, isi_int_list, isi_int_tuple, isi_int_none, isi_bool_int, isi_bool_bool, isi_bool_str, isi_bool_list, isi_bool_tuple, isi_bool_none, isi_str_int, isi_str_bool, isi_str_str, isi_str_list, isi_str_tuple, isi_str_none, isi_list_int, isi_list_bool, isi_list_str, isi_list_list, isi_list_tuple, isi_list_none, isi_tuple_int, isi_tuple_bool, isi_tuple_str, isi_tuple_list, isi_tuple_tuple, isi_tuple_none, ok_sh, ok_fr, nkk_sh, nkk_fr, nkk_pk, frm_sh, frm_fr, frm_kk, sc_int, sc_bool, sc_str, sc_none, sc_list, sc_tuple, tru_bool, tru_int, tru_none, tru_list, tru_tuple, rd_val, rd_own, rd_ro, rf_val, rf_own, so_un, so_val, so_own, sg_un, sg_val, sg_own, sg_gen, nb_un, nb_val, nb_own, nb_ro, bo_bor, bo_gen, ro_ro, re_bor, re_gen, ov_backN, ov_backS, ov_lend, setV_own, setV_bor, setV_gen, adr_own, adr_bor, adr_gen, ws_setIx, ws_app, fMax2, fMin2, fSub, fFdiv, fMod, fPow, fShl, fShr, fAnd, fOr, fXor, fLt, fLe, fGt, fGe, List.getElem?_cons_zero, List.getElem?_cons_succ, List.set_cons_zero, List.set_cons_succ, List.length_cons, List.length_nil, List.all_cons, List.all_nil, List.isEmpty_cons, List.isEmpty_nil, List.filterMap_cons, List.filterMap_nil, Option.isSome_some, Bool.not_true, Bool.not_false, Bool.and_true, Bool.true_and, Bool.and_false, Bool.false_and, Bool.or_false, Bool.false_or, Bool.or_true, Bool.true_or, if_true, if_false, Bool.false_eq_true, true_and, and_true, false_and, and_false, Option.isSome_none, reduceCtorEq, decide_eq_true_eq, rv_ret, rv_next, ov_endN, ov_endR, ov_endB, refR_sh, refR_fr]
  refine fv_mono (bits_ok h0 h1 hz hz2) ?_
  rintro r g rfl
  have f1 := fine_bits (x := z) hw
  have f2 : fine (.int z) := fine_int (by omega)
  have f3 : fine (.int (z + 2 ^ w.toNat)) := fine_int (by
    have : (2 : Int) ^ w.toNat ≤ 2 ^ 64 := two_le hw
    have : (0 : Int) < 2 ^ w.toNat := Int.pow_pos (by decide)
    omega)
  have q1 := wob_ok (bits_is (n := w.toNat) (x := z)) (by rw [bits_len]; exact hw)
  rw [wordV_bits _ _ hz hz2] at q1
  have hle : (0 + 1) ≤ sizeLine := by decide
  have hll : (List.map PyData.int (bits w.toNat z)).length + (0 + 1) ≤ sizeLine := by
    rw [List.length_map, bits_len, sizeLine_eq]
    omega
  simp only [we_lit, we_globL, we_var, we_varF, we_1, we_2, we_lst, we_tup, we_not, we_and, we_or, we_if, we_borIx, we_sl, wi_none, wi_some, we_lr1, we_lr2, we_call, we_call0, we_callB, we_callR, we_callK, we_callT, wipeE, restE, keepS, wt_yes, wt_tru, wt_boo, wt_not, wt_and, wt_or, wa_nil, wa_cons, wp_nil, wp_cons, wq_P, wq_S, wa_seq, wa_enum, wa_zip, wa_rng1, wa_rng2, ws_skip, ws_brk, ws_cont, ws_never, on_next, on_ret, on_brk, on_cont, ws_seq, ws_ret, ws_retN, ws_drop, ws_if, ws_set, ws_setB, ws_asg, ws_par, ws_for, wg_n, wg_t, wgs_nil, wgs_cons, ov_some, ov_none, ov_sr, ov_if, ov_st, ov_put_sh, ov_put_fr, intS_int, bolS_bool, seqS_l, seqS_t, lstS_l, lstF_fr, fAdd_ii, fAdd_ss, fAdd_ll, fAdd_tt, fI_ii, fIc_ii, fMul_ii, fMul_li, ov_fEq, ov_fNe, fCmp_ii, fIn_l, fNotIn_l, fNeg_i, ov_fIx_li, ov_fIx_ti, fSl_l, fSl_t, fLen_l, fLen_t, fLen_s, fInt_i, fInt_b, fAbs_i, fList_l, fList_t, fTuple_l, fTuple_t, fBits_i, ov_fRepr, fIsi_d, fIsN_n, isi_int_int, isi_int_bool, isi_int_str, isi_int_list, isi_int_tuple, isi_int_none, isi_bool_int, isi_bool_bool, isi_bool_str, isi_bool_list, isi_bool_tuple, isi_bool_none, isi_str_int, isi_str_bool, isi_str_str, isi_str_list, isi_str_tuple, isi_str_none, isi_list_int, isi_list_bool, isi_list_str, isi_list_list, isi_list_tuple, isi_list_none, isi_tuple_int, isi_tuple_bool, isi_tuple_str, isi_tuple_list, isi_tuple_tuple, isi_tuple_none, ok_sh, ok_fr, nkk_sh, nkk_fr, nkk_pk, frm_sh, frm_fr, frm_kk, sc_int, sc_bool, sc_str, sc_none, sc_list, sc_tuple, tru_bool, tru_int, tru_none, tru_list, tru_tuple, rd_val, rd_own, rd_ro, rf_val, rf_own, so_un, so_val, so_own, sg_un, sg_val, sg_own, sg_gen, nb_un, nb_val, nb_own, nb_ro, bo_bor, bo_gen, ro_ro, re_bor, re_gen, ov_backN, ov_backS, ov_lend, setV_own, setV_bor, setV_gen, adr_own, adr_bor, adr_gen, ws_setIx, ws_app, fMax2, fMin2, fSub, fFdiv, fMod, fPow, fShl, fShr, fAnd, fOr, fXor, fLt, fLe, fGt, fGe, List.getElem?_cons_zero, List.getElem?_cons_succ, List.set_cons_zero, List.set_cons_succ, List.length_cons, List.length_nil, List.all_cons, List.all_nil, List.isEmpty_cons, List.isEmpty_nil, List.filterMap_cons, List.filterMap_nil, Option.isSome_some, Bool.not_true, Bool.not_false, Bool.and_true, Bool.true_and, Bool.and_false, Bool.false_and, Bool.or_false, Bool.false_or, Bool.or_true, Bool.true_or, if_true, if_false, Bool.false_eq_true, true_and, and_true, false_and, and_false, Option.isSome_none, reduceCtorEq, decide_eq_true_eq, rv_ret, rv_next, ov_endN, ov_endR, ov_endB, refR_sh, refR_fr, h6, f1.showable, f1.le, f1.shaped, f1.shaped_shown, eqv_str_self, eqv_list, eqv_int, decide_true]
  refine fv_mono (bits_ok h0 h1 hz hz2) ?_
  rintro r g rfl
  simp only [we_lit, we_globL, we_var, we_varF, we_1, we_2, we_lst, we_tup, we_not, we_and, we_or, we_if, we_borIx, we_sl, wi_none, wi_some, we_lr1, we_lr2, we_call, we_call0, we_callB, we_callR, we_callK, we_callT, wipeE, restE, keepS, wt_yes, wt_tru, wt_boo, wt_not, wt_and, wt_or, wa_nil, wa_cons, wp_nil, wp_cons, wq_P, wq_S, wa_seq, wa_enum, wa_zip, wa_rng1, wa_rng2, ws_skip, ws_brk, ws_cont, ws_never, on_next, on_ret, on_brk, on_cont, ws_seq, ws_ret, ws_retN, ws_drop, ws_if, ws_set, ws_setB, ws_asg, ws_par, ws_for, wg_n, wg_t, wgs_nil, wgs_cons, ov_some, ov_none, ov_sr, ov_if, ov_st, ov_put_sh, ov_put_fr, intS_int, bolS_bool, seqS_l, seqS_t, lstS_l, lstF_fr, fAdd_ii, fAdd_ss, fAdd_ll, fAdd_tt, fI_ii, fIc_ii, fMul_ii, fMul_li, ov_fEq, ov_fNe, fCmp_ii, fIn_l, fNotIn_l, fNeg_i, ov_fIx_li, ov_fIx_ti, fSl_l, fSl_t, fLen_l, fLen_t, fLen_s, fInt_i, fInt_b, fAbs_i, fList_l, fList_t, fTuple_l, fTuple_t, fBits_i, ov_fRepr, fIsi_d, fIsN_n, isi_int_int, isi_int_bool, isi_int_str, isi_int_list, isi_int_tuple, isi_int_none, isi_bool_int, isi_bool_bool, isi_bool_str, isi_bool_list, isi_bool_tuple, isi_bool_none, isi_str_int, isi_str_bool, isi_str_str, isi_str_list, isi_str_tuple, isi_str_none, isi_list_int, isi_list_bool, isi_list_str, isi_list_list, isi_list_tuple, isi_list_none, isi_tuple_int, isi_tuple_bool, isi_tuple_str, isi_tuple_list, isi_tuple_tuple, isi_tuple_none, ok_sh, ok_fr, nkk_sh, nkk_fr, nkk_pk, frm_sh, frm_fr, frm_kk, sc_int, sc_bool, sc_str, sc_none, sc_list, sc_tuple, tru_bool, tru_int, tru_none, tru_list, tru_tuple, rd_val, rd_own, rd_ro, rf_val, rf_own, so_un, so_val, so_own, sg_un, sg_val, sg_own, sg_gen, nb_un, nb_val, nb_own, nb_ro, bo_bor, bo_gen, ro_ro, re_bor, re_gen, ov_backN, ov_backS, ov_lend, setV_own, setV_bor, setV_gen, adr_own, adr_bor, adr_gen, ws_setIx, ws_app, fMax2, fMin2, fSub, fFdiv, fMod, fPow, fShl, fShr, fAnd, fOr, fXor, fLt, fLe, fGt, fGe, List.getElem?_cons_zero, List.getElem?_cons_succ, List.set_cons_zero, List.set_cons_succ, List.length_cons, List.length_nil, List.all_cons, List.all_nil, List.isEmpty_cons, List.isEmpty_nil, List.filterMap_cons, List.filterMap_nil, Option.isSome_some, Bool.not_true, Bool.not_false, Bool.and_true, Bool.true_and, Bool.and_false, Bool.false_and, Bool.or_false, Bool.false_or, Bool.or_true, Bool.true_or, if_true, if_false, Bool.false_eq_true, true_and, and_true, false_and, and_false, Option.isSome_none, reduceCtorEq, decide_eq_true_eq, rv_ret, rv_next, ov_endN, ov_endR, ov_endB, refR_sh, refR_fr, f1.showable, f1.le, f1.shaped, f1.shaped_shown, eqv_str_self, eqv_list, eqv_int, decide_true]
  refine fv_mono q1 ?_
  rintro r g rfl
  simp only [we_lit, we_globL, we_var, we_varF, we_1, we_2, we_lst, we_tup, we_not, we_and, we_or, we_if, we_borIx, we_sl, wi_none, wi_some, we_lr1, we_lr2, we_call, we_call0, we_callB, we_callR, we_callK, we_callT, wipeE, restE, keepS, wt_yes, wt_tru, wt_boo, wt_not, wt_and, wt_or, wa_nil, wa_cons, wp_nil, wp_cons, wq_P, wq_S, wa_seq, wa_enum, wa_zip, wa_rng1, wa_rng2, ws_skip, ws_brk, ws_cont, ws_never, on_next, on_ret, on_brk, on_cont, ws_seq, ws_ret, ws_retN, ws_drop, ws_if, ws_set, ws_setB, ws_asg, ws_par, ws_for, wg_n, wg_t, wgs_nil, wgs_cons, ov_some, ov_none, ov_sr, ov_if, ov_st, ov_put_sh, ov_put_fr, intS_int, bolS_bool, seqS_l, seqS_t, lstS_l, lstF_fr, fAdd_ii, fAdd_ss, fAdd_ll, fAdd_tt, fI_ii, fIc_ii, fMul_ii, fMul_li, ov_fEq, ov_fNe, fCmp_ii, fIn_l, fNotIn_l, fNeg_i, ov_fIx_li, ov_fIx_ti, fSl_l, fSl_t, fLen_l, fLen_t, fLen_s, fInt_i, fInt_b, fAbs_i, fList_l, fList_t, fTuple_l, fTuple_t, fBits_i, ov_fRepr, fIsi_d, fIsN_n, isi_int_int, isi_int_bool, isi_int_str, isi_int_list, isi_int_tuple, isi_int_none, isi_bool_int, isi_bool_bool, isi_bool_str, isi_bool_list, isi_bool_tuple, isi_bool_none, isi_str_int, isi_str_bool, isi_str_str, isi_str_list, isi_str_tuple, isi_str_none, isi_list_int, isi_list_bool, isi_list_str, isi_list_list, isi_list_tuple, isi_list_none, isi_tuple_int, isi_tuple_bool, isi_tuple_str, isi_tuple_list, isi_tuple_tuple, isi_tuple_none, ok_sh, ok_fr, nkk_sh, nkk_fr, nkk_pk, frm_sh, frm_fr, frm_kk, sc_int, sc_bool, sc_str, sc_none, sc_list, sc_tuple, tru_bool, tru_int, tru_none, tru_list, tru_tuple, rd_val, rd_own, rd_ro, rf_val, rf_own, so_un, so_val, so_own, sg_un, sg_val, sg_own, sg_gen, nb_un, nb_val, nb_own, nb_ro, bo_bor, bo_gen, ro_ro, re_bor, re_gen, ov_backN, ov_backS, ov_lend, setV_own, setV_bor, setV_gen, adr_own, adr_bor, adr_gen, ws_setIx, ws_app, fMax2, fMin2, fSub, fFdiv, fMod, fPow, fShl, fShr, fAnd, fOr, fXor, fLt, fLe, fGt, fGe, List.getElem?_cons_zero, List.getElem?_cons_succ, List.set_cons_zero, List.set_cons_succ, List.length_cons, List.length_nil, List.all_cons, List.all_nil, List.isEmpty_cons, List.isEmpty_nil, List.filterMap_cons, List.filterMap_nil, Option.isSome_some, Bool.not_true, Bool.not_false, Bool.and_true, Bool.true_and, Bool.and_false, Bool.false_and, Bool.or_false, Bool.false_or, Bool.or_true, Bool.true_or, if_true, if_false, Bool.false_eq_true, true_and, and_true, false_and, and_false, Option.isSome_none, reduceCtorEq, decide_eq_true_eq, rv_ret, rv_next, ov_endN, ov_endR, ov_endB, refR_sh, refR_fr, f2.showable, f2.le, f2.shaped, f2.shaped_shown, eqv_str_self, eqv_list, eqv_int, decide_true]
  refine fv_mono q1 ?_
  rintro r g rfl
  simp only [we_lit, we_globL, we_var, we_varF, we_1, we_2, we_lst, we_tup, we_not, we_and, we_or, we_if, we_borIx, we_sl, wi_none, wi_some, we_lr1, we_lr2, we_call, we_call0, we_callB, we_callR, we_callK, we_callT, wipeE, restE, keepS, wt_yes, wt_tru, wt_boo, wt_not, wt_and, wt_or, wa_nil, wa_cons, wp_nil, wp_cons, wq_P, wq_S, wa_seq, wa_enum, wa_zip, wa_rng1, wa_rng2, ws_skip, ws_brk, ws_cont, ws_never, on_next, on_ret, on_brk, on_cont, ws_seq, ws_ret, ws_retN, ws_drop, ws_if, ws_set, ws_setB, ws_asg, ws_par, ws_for, wg_n, wg_t, wgs_nil, wgs_cons, ov_some, ov_none, ov_sr, ov_if, ov_st, ov_put_sh, ov_put_fr, intS_int, bolS_bool, seqS_l, seqS_t, lstS_l, lstF_fr, fAdd_ii, fAdd_ss, fAdd_ll, fAdd_tt, fI_ii, fIc_ii, fMul_ii, fMul_li, ov_fEq, ov_fNe, fCmp_ii, fIn_l, fNotIn_l, fNeg_i, ov_fIx_li, ov_fIx_ti, fSl_l, fSl_t, fLen_l, fLen_t, fLen_s, fInt_i, fInt_b, fAbs_i, fList_l, fList_t, fTuple_l, fTuple_t, fBits_i, ov_fRepr, fIsi_d, fIsN_n, isi_int_int, isi_int_bool, isi_int_str, isi_int_list, isi_int_tuple, isi_int_none, isi_bool_int, isi_bool_bool, isi_bool_str, isi_bool_list, isi_bool_tuple, isi_bool_none, isi_str_int, isi_str_bool, isi_str_str, isi_str_list, isi_str_tuple, isi_str_none, isi_list_int, isi_list_bool, isi_list_str, isi_list_list, isi_list_tuple, isi_list_none, isi_tuple_int, isi_tuple_bool, isi_tuple_str, isi_tuple_list, isi_tuple_tuple, isi_tuple_none, ok_sh, ok_fr, nkk_sh, nkk_fr, nkk_pk, frm_sh, frm_fr, frm_kk, sc_int, sc_bool, sc_str, sc_none, sc_list, sc_tuple, tru_bool, tru_int, tru_none, tru_list, tru_tuple, rd_val, rd_own, rd_ro, rf_val, rf_own, so_un, so_val, so_own, sg_un, sg_val, sg_own, sg_gen, nb_un, nb_val, nb_own, nb_ro, bo_bor, bo_gen, ro_ro, re_bor, re_gen, ov_backN, ov_backS, ov_lend, setV_own, setV_bor, setV_gen, adr_own, adr_bor, adr_gen, ws_setIx, ws_app, fMax2, fMin2, fSub, fFdiv, fMod, fPow, fShl, fShr, fAnd, fOr, fXor, fLt, fLe, fGt, fGe, List.getElem?_cons_zero, List.getElem?_cons_succ, List.set_cons_zero, List.set_cons_succ, List.length_cons, List.length_nil, List.all_cons, List.all_nil, List.isEmpty_cons, List.isEmpty_nil, List.filterMap_cons, List.filterMap_nil, Option.isSome_some, Bool.not_true, Bool.not_false, Bool.and_true, Bool.true_and, Bool.and_false, Bool.false_and, Bool.or_false, Bool.false_or, Bool.or_true, Bool.true_or, if_true, if_false, Bool.false_eq_true, true_and, and_true, false_and, and_false, Option.isSome_none, reduceCtorEq, decide_eq_true_eq, rv_ret, rv_next, ov_endN, ov_endR, ov_endB, refR_sh, refR_fr, f1.shaped, f2.showable, f2.le, f2.shaped, f2.shaped_shown, eqv_str_self, eqv_list, eqv_int, decide_true]
  refine ⟨⟨_, _, rfl⟩, _, _, rfl, hll, fv_mono (bits_ok h0 h1 hz hz2) ?_⟩
  rintro r g rfl
  simp only [we_lit, we_globL, we_var, we_varF, we_1, we_2, we_lst, we_tup, we_not, we_and, we_or, we_if, we_borIx, we_sl, wi_none, wi_some, we_lr1, we_lr2, we_call, we_call0, we_callB, we_callR, we_callK, we_callT, wipeE, restE, keepS, wt_yes, wt_tru, wt_boo, wt_not, wt_and, wt_or, wa_nil, wa_cons, wp_nil, wp_cons, wq_P, wq_S, wa_seq, wa_enum, wa_zip, wa_rng1, wa_rng2, ws_skip, ws_brk, ws_cont, ws_never, on_next, on_ret, on_brk, on_cont, ws_seq, ws_ret, ws_retN, ws_drop, ws_if, ws_set, ws_setB, ws_asg, ws_par, ws_for, wg_n, wg_t, wgs_nil, wgs_cons, ov_some, ov_none, ov_sr, ov_if, ov_st, ov_put_sh, ov_put_fr, intS_int, bolS_bool, seqS_l, seqS_t, lstS_l, lstF_fr, fAdd_ii, fAdd_ss, fAdd_ll, fAdd_tt, fI_ii, fIc_ii, fMul_ii, fMul_li, ov_fEq, ov_fNe, fCmp_ii, fIn_l, fNotIn_l, fNeg_i, ov_fIx_li, ov_fIx_ti, fSl_l, fSl_t, fLen_l, fLen_t, fLen_s, fInt_i, fInt_b, fAbs_i, fList_l, fList_t, fTuple_l, fTuple_t, fBits_i, ov_fRepr, fIsi_d, fIsN_n, isi_int_int, isi_int_bool, isi_int_str, isi_int_list, isi_int_tuple, isi_int_none, isi_bool_int, isi_bool_bool, isi_bool_str, isi_bool_list, isi_bool_tuple, isi_bool_none, isi_str_int, isi_str_bool, isi_str_str, isi_str_list, isi_str_tuple, isi_str_none, isi_list_int, isi_list_bool, isi_list_str, isi_list_list, isi_list_tuple, isi_list_none, isi_tuple_int, isi_tuple_bool, isi_tuple_str, isi_tuple_list, isi_tuple_tuple, isi_tuple_none, ok_sh, ok_fr, nkk_sh, nkk_fr, nkk_pk, frm_sh, frm_fr, frm_kk, sc_int, sc_bool, sc_str, sc_none, sc_list, sc_tuple, tru_bool, tru_int, tru_none, tru_list, tru_tuple, rd_val, rd_own, rd_ro, rf_val, rf_own, so_un, so_val, so_own, sg_un, sg_val, sg_own, sg_gen, nb_un, nb_val, nb_own, nb_ro, bo_bor, bo_gen, ro_ro, re_bor, re_gen, ov_backN, ov_backS, ov_lend, setV_own, setV_bor, setV_gen, adr_own, adr_bor, adr_gen, ws_setIx, ws_app, fMax2, fMin2, fSub, fFdiv, fMod, fPow, fShl, fShr, fAnd, fOr, fXor, fLt, fLe, fGt, fGe, List.getElem?_cons_zero, List.getElem?_cons_succ, List.set_cons_zero, List.set_cons_succ, List.length_cons, List.length_nil, List.all_cons, List.all_nil, List.isEmpty_cons, List.isEmpty_nil, List.filterMap_cons, List.filterMap_nil, Option.isSome_some, Bool.not_true, Bool.not_false, Bool.and_true, Bool.true_and, Bool.and_false, Bool.false_and, Bool.or_false, Bool.false_or, Bool.or_true, Bool.true_or, if_true, if_false, Bool.false_eq_true, true_and, and_true, false_and, and_false, Option.isSome_none, reduceCtorEq, decide_eq_true_eq, rv_ret, rv_next, ov_endN, ov_endR, ov_endB, refR_sh, refR_fr, f1.shaped, eqv_list, decide_true, hle, hll]
  split
  · rename_i hw64
    refine ⟨⟨by decide, by decide⟩, ?_⟩
    have hb0 : IsBits (bits w.toNat z ++ [0]) := fun b hb => by
      rcases List.mem_append.mp hb with hb | hb
      · exact bits_is b hb
      · exact .inl (List.mem_singleton.mp hb)
    have hb1 : IsBits (bits w.toNat z ++ [1]) := fun b hb => by
      rcases List.mem_append.mp hb with hb | hb
      · exact bits_is b hb
      · exact .inr (List.mem_singleton.mp hb)
    have q2 := wob_ok hb0 (by rw [List.length_append, bits_len]; show w.toNat + 1 ≤ 64; omega)
    have q3 := wob_ok hb1 (by rw [List.length_append, bits_len]; show w.toNat + 1 ≤ 64; omega)
    rw [wordV_app, wordV_bits _ _ hz hz2, bits_len, List.map_append] at q2 q3
    have e0 : z + 2 ^ w.toNat * wordV [0] = z := by simp [wordV]
    have e1 : z + 2 ^ w.toNat * wordV [1] = z + 2 ^ w.toNat := by simp [wordV]
    rw [e0] at q2
    rw [e1] at q3
    refine fv_mono q2 ?_
    rintro r g rfl
    simp only [we_lit, we_globL, we_var, we_varF, we_1, we_2, we_lst, we_tup, we_not, we_and, we_or, we_if, we_borIx, we_sl, wi_none, wi_some, we_lr1, we_lr2, we_call, we_call0, we_callB, we_callR, we_callK, we_callT, wipeE, restE, keepS, wt_yes, wt_tru, wt_boo, wt_not, wt_and, wt_or, wa_nil, wa_cons, wp_nil, wp_cons, wq_P, wq_S, wa_seq, wa_enum, wa_zip, wa_rng1, wa_rng2, ws_skip, ws_brk, ws_cont, ws_never, on_next, on_ret, on_brk, on_cont, ws_seq, ws_ret, ws_retN, ws_drop, ws_if, ws_set, ws_setB, ws_asg, ws_par, ws_for, wg_n, wg_t, wgs_nil, wgs_cons, ov_some, ov_none, ov_sr, ov_if, ov_st, ov_put_sh, ov_put_fr, intS_int, bolS_bool, seqS_l, seqS_t, lstS_l, lstF_fr, fAdd_ii, fAdd_ss, fAdd_ll, fAdd_tt, fI_ii, fIc_ii, fMul_ii, fMul_li, ov_fEq, ov_fNe, fCmp_ii, fIn_l, fNotIn_l, fNeg_i, ov_fIx_li, ov_fIx_ti, fSl_l, fSl_t, fLen_l, fLen_t, fLen_s, fInt_i, fInt_b, fAbs_i, fList_l, fList_t, fTuple_l, fTuple_t, fBits_i, ov_fRepr, fIsi_d, fIsN_n, isi_int_int, isi_int_bool, isi_int_str, isi_int_list, isi_int_tuple, isi_int_none, isi_bool_int, isi_bool_bool, isi_bool_str, isi_bool_list, isi_bool_tuple, isi_bool_none, isi_str_int, isi_str_bool, isi_str_str, isi_str_list, isi_str_tuple, isi_str_none, isi_list_int, isi_list_bool, isi_list_str, isi_list_list, isi_list_tuple, isi_list_none, isi_tuple_int, isi_tuple_bool, isi_tuple_str, isi_tuple_list, isi_tuple_tuple, isi_tuple_none, ok_sh, ok_fr, nkk_sh, nkk_fr, nkk_pk, frm_sh, frm_fr, frm_kk, sc_int, sc_bool, sc_str, sc_none, sc_list, sc_tuple, tru_bool, tru_int, tru_none, tru_list, tru_tuple, rd_val, rd_own, rd_ro, rf_val, rf_own, so_un, so_val, so_own, sg_un, sg_val, sg_own, sg_gen, nb_un, nb_val, nb_own, nb_ro, bo_bor, bo_gen, ro_ro, re_bor, re_gen, ov_backN, ov_backS, ov_lend, setV_own, setV_bor, setV_gen, adr_own, adr_bor, adr_gen, ws_setIx, ws_app, fMax2, fMin2, fSub, fFdiv, fMod, fPow, fShl, fShr, fAnd, fOr, fXor, fLt, fLe, fGt, fGe, List.getElem?_cons_zero, List.getElem?_cons_succ, List.set_cons_zero, List.set_cons_succ, List.length_cons, List.length_nil, List.all_cons, List.all_nil, List.isEmpty_cons, List.isEmpty_nil, List.filterMap_cons, List.filterMap_nil, Option.isSome_some, Bool.not_true, Bool.not_false, Bool.and_true, Bool.true_and, Bool.and_false, Bool.false_and, Bool.or_false, Bool.false_or, Bool.or_true, Bool.true_or, if_true, if_false, Bool.false_eq_true, true_and, and_true, false_and, and_false, Option.isSome_none, reduceCtorEq, decide_eq_true_eq, rv_ret, rv_next, ov_endN, ov_endR, ov_endB, refR_sh, refR_fr, f2.shaped, eqv_int, decide_true]
    refine ⟨⟨by decide, by decide⟩, fv_mono q3 ?_⟩
    rintro r g rfl
    simp only [we_lit, we_globL, we_var, we_varF, we_1, we_2, we_lst, we_tup, we_not, we_and, we_or, we_if, we_borIx, we_sl, wi_none, wi_some, we_lr1, we_lr2, we_call, we_call0, we_callB, we_callR, we_callK, we_callT, wipeE, restE, keepS, wt_yes, wt_tru, wt_boo, wt_not, wt_and, wt_or, wa_nil, wa_cons, wp_nil, wp_cons, wq_P, wq_S, wa_seq, wa_enum, wa_zip, wa_rng1, wa_rng2, ws_skip, ws_brk, ws_cont, ws_never, on_next, on_ret, on_brk, on_cont, ws_seq, ws_ret, ws_retN, ws_drop, ws_if, ws_set, ws_setB, ws_asg, ws_par, ws_for, wg_n, wg_t, wgs_nil, wgs_cons, ov_some, ov_none, ov_sr, ov_if, ov_st, ov_put_sh, ov_put_fr, intS_int, bolS_bool, seqS_l, seqS_t, lstS_l, lstF_fr, fAdd_ii, fAdd_ss, fAdd_ll, fAdd_tt, fI_ii, fIc_ii, fMul_ii, fMul_li, ov_fEq, ov_fNe, fCmp_ii, fIn_l, fNotIn_l, fNeg_i, ov_fIx_li, ov_fIx_ti, fSl_l, fSl_t, fLen_l, fLen_t, fLen_s, fInt_i, fInt_b, fAbs_i, fList_l, fList_t, fTuple_l, fTuple_t, fBits_i, ov_fRepr, fIsi_d, fIsN_n, isi_int_int, isi_int_bool, isi_int_str, isi_int_list, isi_int_tuple, isi_int_none, isi_bool_int, isi_bool_bool, isi_bool_str, isi_bool_list, isi_bool_tuple, isi_bool_none, isi_str_int, isi_str_bool, isi_str_str, isi_str_list, isi_str_tuple, isi_str_none, isi_list_int, isi_list_bool, isi_list_str, isi_list_list, isi_list_tuple, isi_list_none, isi_tuple_int, isi_tuple_bool, isi_tuple_str, isi_tuple_list, isi_tuple_tuple, isi_tuple_none, ok_sh, ok_fr, nkk_sh, nkk_fr, nkk_pk, frm_sh, frm_fr, frm_kk, sc_int, sc_bool, sc_str, sc_none, sc_list, sc_tuple, tru_bool, tru_int, tru_none, tru_list, tru_tuple, rd_val, rd_own, rd_ro, rf_val, rf_own, so_un, so_val, so_own, sg_un, sg_val, sg_own, sg_gen, nb_un, nb_val, nb_own, nb_ro, bo_bor, bo_gen, ro_ro, re_bor, re_gen, ov_backN, ov_backS, ov_lend, setV_own, setV_bor, setV_gen, adr_own, adr_bor, adr_gen, ws_setIx, ws_app, fMax2, fMin2, fSub, fFdiv, fMod, fPow, fShl, fShr, fAnd, fOr, fXor, fLt, fLe, fGt, fGe, List.getElem?_cons_zero, List.getElem?_cons_succ, List.set_cons_zero, List.set_cons_succ, List.length_cons, List.length_nil, List.all_cons, List.all_nil, List.isEmpty_cons, List.isEmpty_nil, List.filterMap_cons, List.filterMap_nil, Option.isSome_some, Bool.not_true, Bool.not_false, Bool.and_true, Bool.true_and, Bool.and_false, Bool.false_and, Bool.or_false, Bool.false_or, Bool.or_true, Bool.true_or, if_true, if_false, Bool.false_eq_true, true_and, and_true, false_and, and_false, Option.isSome_none, reduceCtorEq, decide_eq_true_eq, rv_ret, rv_next, ov_endN, ov_endR, ov_endB, refR_sh, refR_fr]
    refine fv_mono (two_ok h0 (by omega)) ?_
    rintro r g rfl
    simp only [we_lit, we_globL, we_var, we_varF, we_1, we_2, we_lst, we_tup, we_not, we_and, we_or, we_if, we_borIx, we_sl, wi_none, wi_some, we_lr1, we_lr2, we_call, we_call0, we_callB, we_callR, we_callK, we_callT, wipeE, restE, keepS, wt_yes, wt_tru, wt_boo, wt_not, wt_and, wt_or, wa_nil, wa_cons, wp_nil, wp_cons, wq_P, wq_S, wa_seq, wa_enum, wa_zip, wa_rng1, wa_rng2, ws_skip, ws_brk, ws_cont, ws_never, on_next, on_ret, on_brk, on_cont, ws_seq, ws_ret, ws_retN, ws_drop, ws_if, ws_set, ws_setB, ws_asg, ws_par, ws_for, wg_n, wg_t, wgs_nil, wgs_cons, ov_some, ov_none, ov_sr, ov_if, ov_st, ov_put_sh, ov_put_fr, intS_int, bolS_bool, seqS_l, seqS_t, lstS_l, lstF_fr, fAdd_ii, fAdd_ss, fAdd_ll, fAdd_tt, fI_ii, fIc_ii, fMul_ii, fMul_li, ov_fEq, ov_fNe, fCmp_ii, fIn_l, fNotIn_l, fNeg_i, ov_fIx_li, ov_fIx_ti, fSl_l, fSl_t, fLen_l, fLen_t, fLen_s, fInt_i, fInt_b, fAbs_i, fList_l, fList_t, fTuple_l, fTuple_t, fBits_i, ov_fRepr, fIsi_d, fIsN_n, isi_int_int, isi_int_bool, isi_int_str, isi_int_list, isi_int_tuple, isi_int_none, isi_bool_int, isi_bool_bool, isi_bool_str, isi_bool_list, isi_bool_tuple, isi_bool_none, isi_str_int, isi_str_bool, isi_str_str, isi_str_list, isi_str_tuple, isi_str_none, isi_list_int, isi_list_bool, isi_list_str, isi_list_list, isi_list_tuple, isi_list_none, isi_tuple_int, isi_tuple_bool, isi_tuple_str, isi_tuple_list, isi_tuple_tuple, isi_tuple_none, ok_sh, ok_fr, nkk_sh, nkk_fr, nkk_pk, frm_sh, frm_fr, frm_kk, sc_int, sc_bool, sc_str, sc_none, sc_list, sc_tuple, tru_bool, tru_int, tru_none, tru_list, tru_tuple, rd_val, rd_own, rd_ro, rf_val, rf_own, so_un, so_val, so_own, sg_un, sg_val, sg_own, sg_gen, nb_un, nb_val, nb_own, nb_ro, bo_bor, bo_gen, ro_ro, re_bor, re_gen, ov_backN, ov_backS, ov_lend, setV_own, setV_bor, setV_gen, adr_own, adr_bor, adr_gen, ws_setIx, ws_app, fMax2, fMin2, fSub, fFdiv, fMod, fPow, fShl, fShr, fAnd, fOr, fXor, fLt, fLe, fGt, fGe, List.getElem?_cons_zero, List.getElem?_cons_succ, List.set_cons_zero, List.set_cons_succ, List.length_cons, List.length_nil, List.all_cons, List.all_nil, List.isEmpty_cons, List.isEmpty_nil, List.filterMap_cons, List.filterMap_nil, Option.isSome_some, Bool.not_true, Bool.not_false, Bool.and_true, Bool.true_and, Bool.and_false, Bool.false_and, Bool.or_false, Bool.false_or, Bool.or_true, Bool.true_or, if_true, if_false, Bool.false_eq_true, true_and, and_true, false_and, and_false, Option.isSome_none, reduceCtorEq, decide_eq_true_eq, rv_ret, rv_next, ov_endN, ov_endR, ov_endB, refR_sh, refR_fr, f3.shaped, eqv_int, decide_true]
    exact ⟨_, _, _, _, rfl, h5', so_own, so_own, so_val⟩
  · exact ⟨_, _, _, _, rfl, h5', so_own, so_own, so_val⟩
theorem right_ok {m : Nat} {gs : List PyData} (hg : Gen m gs) (hm : m < 2 ^ 40) : FV F__law_right gs [] fun r gs' => r = ⟨.bool true, false, .sh⟩ := by
  refine fv_run ?_
  show SV u__law_right [.bor gs, .un, .un, .un, .un, .un, .un, .un, .un] _
  unfold u__law_right
  simp only [we_lit, we_globL, we_var, we_varF, we_1, we_2, we_lst, we_tup, we_not, we_and, we_or, we_if, we_borIx, we_sl, wi_none, wi_some, we_lr1, we_lr2, we_call, we_call0, we_callB, we_callR, we_callK, we_callT, wipeE, restE, keepS, wt_yes, wt_tru, wt_boo, wt_not, wt_and, wt_or, wa_nil, wa_cons, wp_nil, wp_cons, wq_P, wq_S, wa_seq, wa_enum, wa_zip, wa_rng1, wa_rng2, ws_skip, ws_brk, ws_cont, ws_never, on_next, on_ret, on_brk, on_cont, ws_seq, ws_ret, ws_retN, ws_drop, ws_if, ws_set, ws_setB, ws_asg, ws_par, ws_for, wg_n, wg_t, wgs_nil, wgs_cons, ov_some, ov_none, ov_sr, ov_if, ov_st, ov_put_sh, ov_put_fr, intS_int, bolS_bool, seqS_l, seqS_t, lstS_l, lstF_fr, fAdd_ii, fAdd_ss, fAdd_ll, fAdd_tt, fI_ii, fIc_ii, fMul_ii, fMul_li, ov_fEq, ov_fNe, fCmp_ii, fIn_l, fNotIn_l, fNeg_i, ov_fIx_li, ov_fIx_ti, fSl_l, fSl_t, fLen_l, fLen_t, fLen_s, fInt_i, fInt_b, fAbs_i, fList_l, fList_t, fTuple_l, fTuple_t, fBits_i, ov_fRepr, fIsi_d, fIsN_n, isi_int_int, isi_int_bool, isi_int_str, isi_int_list, isi_int_tuple, isi_int_none, isi_bool_int, isi_bool_bool, isi_bool_str, isi_bool_list, isi_bool_tuple, isi_bool_none, isi_str_int, isi_str_bool, isi_str_str, isi_str_list, isi_str_tuple, isi_str_none, isi_list_int, isi_list_bool, isi_list_str, isi_list_list, isi_list_tuple, isi_list_none, isi_tuple_int, isi_tuple_bool, isi_tuple_str, isi_tuple_list, isi_tuple_tuple, isi_tuple_none, ok_sh, ok_fr, nkk_sh, nkk_fr, nkk_pk, frm_sh, frm_fr, frm_kk, sc_int, sc_bool, sc_str, sc_none, sc_list, sc_tuple, tru_bool, tru_int, tru_none, tru_list, tru_tuple, rd_val, rd_own, rd_ro, rf_val, rf_own, so_un, so_val, so_own, sg_un, sg_val, sg_own, sg_gen, nb_un, nb_val, nb_own, nb_ro, bo_bor, bo_gen, ro_ro, re_bor, re_gen, ov_backN, ov_backS, ov_lend, setV_own, setV_bor, setV_gen, adr_own, adr_bor, adr_gen, ws_setIx, ws_app, fMax2, fMin2, fSub, fFdiv, fMod, fPow, fShl, fShr, fAnd, fOr, fXor, fLt, fLe, fGt, fGe, List.getElem?_cons_zero, List.getElem?_cons_succ, List.set_cons_zero, List.set_cons_succ, List.length_cons, List.length_nil, List.all_cons, List.all_nil, List.isEmpty_cons, List.isEmpty_nil, List.filterMap_cons, List.filterMap_nil, Option.isSome_some, Bool.not_true, Bool.not_false, Bool.and_true, Bool.true_and, Bool.and_false, Bool.false_and, Bool.or_false, Bool.false_or, Bool.or_true, Bool.true_or, if_true, if_false, Bool.false_eq_true, true_and, and_true, false_and, and_false, Option.isSome_none, reduceCtorEq, decide_eq_true_eq, rv_ret, rv_next, ov_endN, ov_endR, ov_endB, refR_sh, refR_fr, eq_random]
  refine fv_mono (random_ok hg (by omega) (by decide) (by decide)) ?_
  rintro r g1 ⟨w1, rfl, hg1, h1, h1'⟩
  simp only [we_lit, we_globL, we_var, we_varF, we_1, we_2, we_lst, we_tup, we_not, we_and, we_or, we_if, we_borIx, we_sl, wi_none, wi_some, we_lr1, we_lr2, we_call, we_call0, we_callB, we_callR, we_callK, we_callT, wipeE, restE, keepS, wt_yes, wt_tru, wt_boo, wt_not, wt_and, wt_or, wa_nil, wa_cons, wp_nil, wp_cons, wq_P, wq_S, wa_seq, wa_enum, wa_zip, wa_rng1, wa_rng2, ws_skip, ws_brk, ws_cont, ws_never, on_next, on_ret, on_brk, on_cont, ws_seq, ws_ret, ws_retN, ws_drop, ws_if, ws_set, ws_setB, ws_asg, ws_par, ws_for, wg_n, wg_t, wgs_nil, wgs_cons, ov_some, ov_none, ov_sr, ov_if, ov_st, ov_put_sh, ov_put_fr, intS_int, bolS_bool, seqS_l, seqS_t, lstS_l, lstF_fr, fAdd_ii, fAdd_ss, fAdd_ll, fAdd_tt, fI_ii, fIc_ii, fMul_ii, fMul_li, ov_fEq, ov_fNe, fCmp_ii, fIn_l, fNotIn_l, fNeg_i, ov_fIx_li, ov_fIx_ti, fSl_l, fSl_t, fLen_l, fLen_t, fLen_s, fInt_i, fInt_b, fAbs_i, fList_l, fList_t, fTuple_l, fTuple_t, fBits_i, ov_fRepr, fIsi_d, fIsN_n, isi_int_int, isi_int_bool, isi_int_str, isi_int_list, isi_int_tuple, isi_int_none, isi_bool_int, isi_bool_bool, isi_bool_str, isi_bool_list, isi_bool_tuple, isi_bool_none, isi_str_int, isi_str_bool, isi_str_str, isi_str_list, isi_str_tuple, isi_str_none, isi_list_int, isi_list_bool, isi_list_str, isi_list_list, isi_list_tuple, isi_list_none, isi_tuple_int, isi_tuple_bool, isi_tuple_str, isi_tuple_list, isi_tuple_tuple, isi_tuple_none, ok_sh, ok_fr, nkk_sh, nkk_fr, nkk_pk, frm_sh, frm_fr, frm_kk, sc_int, sc_bool, sc_str, sc_none, sc_list, sc_tuple, tru_bool, tru_int, tru_none, tru_list, tru_tuple, rd_val, rd_own, rd_ro, rf_val, rf_own, so_un, so_val, so_own, sg_un, sg_val, sg_own, sg_gen, nb_un, nb_val, nb_own, nb_ro, bo_bor, bo_gen, ro_ro, re_bor, re_gen, ov_backN, ov_backS, ov_lend, setV_own, setV_bor, setV_gen, adr_own, adr_bor, adr_gen, ws_setIx, ws_app, fMax2, fMin2, fSub, fFdiv, fMod, fPow, fShl, fShr, fAnd, fOr, fXor, fLt, fLe, fGt, fGe, List.getElem?_cons_zero, List.getElem?_cons_succ, List.set_cons_zero, List.set_cons_succ, List.length_cons, List.length_nil, List.all_cons, List.all_nil, List.isEmpty_cons, List.isEmpty_nil, List.filterMap_cons, List.filterMap_nil, Option.isSome_some, Bool.not_true, Bool.not_false, Bool.and_true, Bool.true_and, Bool.and_false, Bool.false_and, Bool.or_false, Bool.false_or, Bool.or_true, Bool.true_or, if_true, if_false, Bool.false_eq_true, true_and, and_true, false_and, and_false, Option.isSome_none, reduceCtorEq, decide_eq_true_eq, rv_ret, rv_next, ov_endN, ov_endR, ov_endB, refR_sh, refR_fr]
  refine fv_mono (random_ok hg1 (by omega) (by decide) (by decide)) ?_
  rintro r g2 ⟨w2, rfl, hg2, h2, h2'⟩
  simp only [we_lit, we_globL, we_var, we_varF, we_1, we_2, we_lst, we_tup, we_not, we_and, we_or, we_if, we_borIx, we_sl, wi_none, wi_some, we_lr1, we_lr2, we_call, we_call0, we_callB, we_callR, we_callK, we_callT, wipeE, restE, keepS, wt_yes, wt_tru, wt_boo, wt_not, wt_and, wt_or, wa_nil, wa_cons, wp_nil, wp_cons, wq_P, wq_S, wa_seq, wa_enum, wa_zip, wa_rng1, wa_rng2, ws_skip, ws_brk, ws_cont, ws_never, on_next, on_ret, on_brk, on_cont, ws_seq, ws_ret, ws_retN, ws_drop, ws_if, ws_set, ws_setB, ws_asg, ws_par, ws_for, wg_n, wg_t, wgs_nil, wgs_cons, ov_some, ov_none, ov_sr, ov_if, ov_st, ov_put_sh, ov_put_fr, intS_int, bolS_bool, seqS_l, seqS_t, lstS_l, lstF_fr, fAdd_ii, fAdd_ss, fAdd_ll, fAdd_tt, fI_ii, fIc_ii, fMul_ii, fMul_li, ov_fEq, ov_fNe, fCmp_ii, fIn_l, fNotIn_l, fNeg_i, ov_fIx_li, ov_fIx_ti, fSl_l, fSl_t, fLen_l, fLen_t, fLen_s, fInt_i, fInt_b, fAbs_i, fList_l, fList_t, fTuple_l, fTuple_t, fBits_i, ov_fRepr, fIsi_d, fIsN_n, isi_int_int, isi_int_bool, isi_int_str, isi_int_list, isi_int_tuple, isi_int_none, isi_bool_int, isi_bool_bool, isi_bool_str, isi_bool_list, isi_bool_tuple, isi_bool_none, isi_str_int, isi_str_bool, isi_str_str, isi_str_list, isi_str_tuple, isi_str_none, isi_list_int, isi_list_bool, isi_list_str, isi_list_list, isi_list_tuple, isi_list_none, isi_tuple_int, isi_tuple_bool, isi_tuple_str, isi_tuple_list, isi_tuple_tuple, isi_tuple_none, ok_sh, ok_fr, nkk_sh, nkk_fr, nkk_pk, frm_sh, frm_fr, frm_kk, sc_int, sc_bool, sc_str, sc_none, sc_list, sc_tuple, tru_bool, tru_int, tru_none, tru_list, tru_tuple, rd_val, rd_own, rd_ro, rf_val, rf_own, so_un, so_val, so_own, sg_un, sg_val, sg_own, sg_gen, nb_un, nb_val, nb_own, nb_ro, bo_bor, bo_gen, ro_ro, re_bor, re_gen, ov_backN, ov_backS, ov_lend, setV_own, setV_bor, setV_gen, adr_own, adr_bor, adr_gen, ws_setIx, ws_app, fMax2, fMin2, fSub, fFdiv, fMod, fPow, fShl, fShr, fAnd, fOr, fXor, fLt, fLe, fGt, fGe, List.getElem?_cons_zero, List.getElem?_cons_succ, List.set_cons_zero, List.set_cons_succ, List.length_cons, List.length_nil, List.all_cons, List.all_nil, List.isEmpty_cons, List.isEmpty_nil, List.filterMap_cons, List.filterMap_nil, Option.isSome_some, Bool.not_true, Bool.not_false, Bool.and_true, Bool.true_and, Bool.and_false, Bool.false_and, Bool.or_false, Bool.false_or, Bool.or_true, Bool.true_or, if_true, if_false, Bool.false_eq_true, true_and, and_true, false_and, and_false, Option.isSome_none, reduceCtorEq, decide_eq_true_eq, rv_ret, rv_next, ov_endN, ov_endR, ov_endB, refR_sh, refR_fr]
  refine ⟨by decide, fv_mono (random_ok hg2 (by omega) (by decide) (by decide)) ?_⟩
  rintro r g3 ⟨w3, rfl, hg3, h3, h3'⟩
  simp only [we_lit, we_globL, we_var, we_varF, we_1, we_2, we_lst, we_tup, we_not, we_and, we_or, we_if, we_borIx, we_sl, wi_none, wi_some, we_lr1, we_lr2, we_call, we_call0, we_callB, we_callR, we_callK, we_callT, wipeE, restE, keepS, wt_yes, wt_tru, wt_boo, wt_not, wt_and, wt_or, wa_nil, wa_cons, wp_nil, wp_cons, wq_P, wq_S, wa_seq, wa_enum, wa_zip, wa_rng1, wa_rng2, ws_skip, ws_brk, ws_cont, ws_never, on_next, on_ret, on_brk, on_cont, ws_seq, ws_ret, ws_retN, ws_drop, ws_if, ws_set, ws_setB, ws_asg, ws_par, ws_for, wg_n, wg_t, wgs_nil, wgs_cons, ov_some, ov_none, ov_sr, ov_if, ov_st, ov_put_sh, ov_put_fr, intS_int, bolS_bool, seqS_l, seqS_t, lstS_l, lstF_fr, fAdd_ii, fAdd_ss, fAdd_ll, fAdd_tt, fI_ii, fIc_ii, fMul_ii, fMul_li, ov_fEq, ov_fNe, fCmp_ii, fIn_l, fNotIn_l, fNeg_i, ov_fIx_li, ov_fIx_ti, fSl_l, fSl_t, fLen_l, fLen_t, fLen_s, fInt_i, fInt_b, fAbs_i, fList_l, fList_t, fTuple_l, fTuple_t, fBits_i, ov_fRepr, fIsi_d, fIsN_n, isi_int_int, isi_int_bool, isi_int_str, isi_int_list, isi_int_tuple, isi_int_none, isi_bool_int, isi_bool_bool, isi_bool_str, isi_bool_list, isi_bool_tuple, isi_bool_none, isi_str_int, isi_str_bool, isi_str_str, isi_str_list, isi_str_tuple, isi_str_none, isi_list_int, isi_list_bool, isi_list_str, isi_list_list, isi_list_tuple, isi_list_none, isi_tuple_int, isi_tuple_bool, isi_tuple_str, isi_tuple_list, isi_tuple_tuple, isi_tuple_none, ok_sh, ok_fr, nkk_sh, nkk_fr, nkk_pk, frm_sh, frm_fr, frm_kk, sc_int, sc_bool, sc_str, sc_none, sc_list, sc_tuple, tru_bool, tru_int, tru_none, tru_list, tru_tuple, rd_val, rd_own, rd_ro, rf_val, rf_own, so_un, so_val, so_own, sg_un, sg_val, sg_own, sg_gen, nb_un, nb_val, nb_own, nb_ro, bo_bor, bo_gen, ro_ro, re_bor, re_gen, ov_backN, ov_backS, ov_lend, setV_own, setV_bor, setV_gen, adr_own, adr_bor, adr_gen, ws_setIx, ws_app, fMax2, fMin2, fSub, fFdiv, fMod, fPow, fShl, fShr, fAnd, fOr, fXor, fLt, fLe, fGt, fGe, List.getElem?_cons_zero, List.getElem?_cons_succ, List.set_cons_zero, List.set_cons_succ, List.length_cons, List.length_nil, List.all_cons, List.all_nil, List.isEmpty_cons, List.isEmpty_nil, List.filterMap_cons, List.filterMap_nil, Option.isSome_some, Bool.not_true, Bool.not_false, Bool.and_true, Bool.true_and, Bool.and_false, Bool.false_and, Bool.or_false, Bool.false_or, Bool.or_true, Bool.true_or, if_true, if_false, Bool.false_eq_true, true_and, and_true, false_and, and_false, Option.isSome_none, reduceCtorEq, decide_eq_true_eq, rv_ret, rv_next, ov_endN, ov_endR, ov_endB, refR_sh, refR_fr]
  obtain ⟨w, hw, hw0, hw1⟩ : ∃ w : Int, atI [PyData.int w1, PyData.int w2] w3 = some (.int w) ∧ 0 ≤ w ∧ w ≤ 64 := by
    by_cases z : w3 = 0
    · subst z
      exact ⟨w1, rfl, h1, by omega⟩
    · have : w3 = 1 := by omega
      subst this
      exact ⟨w2, rfl, h2, by omega⟩
  rw [hw]
  have rest : ∀ (ds : List Int) (g : List PyData) (s2 : Ev.Slot), (∀ z ∈ ds, 0 ≤ z ∧ z < 2 ^ w.toNat) →
      SV (forL (gN 4) false v__law_right_2 (ds.map .int)) [.bor g, .val false (.int w), s2, .un, .un, .un, .un, .un, .un] fun fl ρ => fl = .next ∧ ∃ ρ', ρ = .bor g :: ρ' := fun ds g s2 hds => by
    refine for_inv (fun i ρ => ∃ s4 s5 s6 s7 s8, ρ = [.bor g, .val false (.int w), s2, .un, s4, s5, s6, s7, s8] ∧ setOk s4 = true ∧ setOk s5 = true ∧ setOk s6 = true ∧ setOk s7 = true ∧ setOk s8 = true) ⟨_, _, _, _, _, rfl, rfl, rfl, rfl, rfl, rfl⟩ ?_ ?_
    · rintro i d ρ hd ⟨s4, s5, s6, s7, s8, rfl, h4, h5, h6, h7, h8⟩
      obtain ⟨z, hz, rfl⟩ := map_get hd
      obtain ⟨hz0, hz1⟩ := hds z (List.mem_of_getElem? hz)
      simp only [we_lit, we_globL, we_var, we_varF, we_1, we_2, we_lst, we_tup, we_not, we_and, we_or, we_if, we_borIx, we_sl, wi_none, wi_some, we_lr1, we_lr2, we_call, we_call0, we_callB, we_callR, we_callK, we_callT, wipeE, restE, keepS, wt_yes, wt_tru, wt_boo, wt_not, wt_and, wt_or, wa_nil, wa_cons, wp_nil, wp_cons, wq_P, wq_S, wa_seq, wa_enum, wa_zip, wa_rng1, wa_rng2, ws_skip, ws_brk, ws_cont, ws_never, on_next, on_ret, on_brk, on_cont, ws_seq, ws_ret, ws_retN, ws_drop, ws_if, ws_set, ws_setB, ws_asg, ws_par, ws_for, wg_n, wg_t, wgs_nil, wgs_cons, ov_some, ov_none, ov_sr, ov_if, ov_st, ov_put_sh, ov_put_fr, intS_int, bolS_bool, seqS_l, seqS_t, lstS_l, lstF_fr, fAdd_ii, fAdd_ss, fAdd_ll, fAdd_tt, fI_ii, fIc_ii, fMul_ii, fMul_li, ov_fEq, ov_fNe, fCmp_ii, fIn_l, fNotIn_l, fNeg_i, ov_fIx_li, ov_fIx_ti, fSl_l, fSl_t, fLen_l, fLen_t, fLen_s, fInt_i, fInt_b, fAbs_i, fList_l, fList_t, fTuple_l, fTuple_t, fBits_i, ov_fRepr, fIsi_d, fIsN_n, isi_int_int, isi_int_bool, isi_int_str, isi_int_list, isi_int_tuple, isi_int_none, isi_bool_int, isi_bool_bool, isi_bool_str, isi_bool_list, isi_bool_tuple, isi_bool_none, isi_str_int, isi_str_bool, isi_str_str, isi_str_list, isi_str_tuple, isi_str_none, isi_list_int, isi_list_bool, isi_list_str, isi_list_list, isi_list_tuple, isi_list_none, isi_tuple_int, isi_tuple_bool, isi_tuple_str, isi_tuple_list, isi_tuple_tuple, isi_tuple_none, ok_sh, ok_fr, nkk_sh, nkk_fr, nkk_pk, frm_sh, frm_fr, frm_kk, sc_int, sc_bool, sc_str, sc_none, sc_list, sc_tuple, tru_bool, tru_int, tru_none, tru_list, tru_tuple, rd_val, rd_own, rd_ro, rf_val, rf_own, so_un, so_val, so_own, sg_un, sg_val, sg_own, sg_gen, nb_un, nb_val, nb_own, nb_ro, bo_bor, bo_gen, ro_ro, re_bor, re_gen, ov_backN, ov_backS, ov_lend, setV_own, setV_bor, setV_gen, adr_own, adr_bor, adr_gen, ws_setIx, ws_app, fMax2, fMin2, fSub, fFdiv, fMod, fPow, fShl, fShr, fAnd, fOr, fXor, fLt, fLe, fGt, fGe, List.getElem?_cons_zero, List.getElem?_cons_succ, List.set_cons_zero, List.set_cons_succ, List.length_cons, List.length_nil, List.all_cons, List.all_nil, List.isEmpty_cons, List.isEmpty_nil, List.filterMap_cons, List.filterMap_nil, Option.isSome_some, Bool.not_true, Bool.not_false, Bool.and_true, Bool.true_and, Bool.and_false, Bool.false_and, Bool.or_false, Bool.false_or, Bool.or_true, Bool.true_or, if_true, if_false, Bool.false_eq_true, true_and, and_true, false_and, and_false, Option.isSome_none, reduceCtorEq, decide_eq_true_eq, rv_ret, rv_next, ov_endN, ov_endR, ov_endB, refR_sh, refR_fr, h4]
      refine sv_mono (body_ok hw0 hw1 hz0 hz1 h5 h6 h7 h8) ?_
      rintro fl ρ ⟨rfl, s5, s6, s7, s8, rfl, h5, h6, h7, h8⟩
      exact ⟨_, s5, s6, s7, s8, rfl, so_val, h5, h6, h7, h8⟩
    · rintro ρ ⟨s4, s5, s6, s7, s8, rfl, _⟩
      exact ⟨rfl, _, rfl⟩
  simp only [we_lit, we_globL, we_var, we_varF, we_1, we_2, we_lst, we_tup, we_not, we_and, we_or, we_if, we_borIx, we_sl, wi_none, wi_some, we_lr1, we_lr2, we_call, we_call0, we_callB, we_callR, we_callK, we_callT, wipeE, restE, keepS, wt_yes, wt_tru, wt_boo, wt_not, wt_and, wt_or, wa_nil, wa_cons, wp_nil, wp_cons, wq_P, wq_S, wa_seq, wa_enum, wa_zip, wa_rng1, wa_rng2, ws_skip, ws_brk, ws_cont, ws_never, on_next, on_ret, on_brk, on_cont, ws_seq, ws_ret, ws_retN, ws_drop, ws_if, ws_set, ws_setB, ws_asg, ws_par, ws_for, wg_n, wg_t, wgs_nil, wgs_cons, ov_some, ov_none, ov_sr, ov_if, ov_st, ov_put_sh, ov_put_fr, intS_int, bolS_bool, seqS_l, seqS_t, lstS_l, lstF_fr, fAdd_ii, fAdd_ss, fAdd_ll, fAdd_tt, fI_ii, fIc_ii, fMul_ii, fMul_li, ov_fEq, ov_fNe, fCmp_ii, fIn_l, fNotIn_l, fNeg_i, ov_fIx_li, ov_fIx_ti, fSl_l, fSl_t, fLen_l, fLen_t, fLen_s, fInt_i, fInt_b, fAbs_i, fList_l, fList_t, fTuple_l, fTuple_t, fBits_i, ov_fRepr, fIsi_d, fIsN_n, isi_int_int, isi_int_bool, isi_int_str, isi_int_list, isi_int_tuple, isi_int_none, isi_bool_int, isi_bool_bool, isi_bool_str, isi_bool_list, isi_bool_tuple, isi_bool_none, isi_str_int, isi_str_bool, isi_str_str, isi_str_list, isi_str_tuple, isi_str_none, isi_list_int, isi_list_bool, isi_list_str, isi_list_list, isi_list_tuple, isi_list_none, isi_tuple_int, isi_tuple_bool, isi_tuple_str, isi_tuple_list, isi_tuple_tuple, isi_tuple_none, ok_sh, ok_fr, nkk_sh, nkk_fr, nkk_pk, frm_sh, frm_fr, frm_kk, sc_int, sc_bool, sc_str, sc_none, sc_list, sc_tuple, tru_bool, tru_int, tru_none, tru_list, tru_tuple, rd_val, rd_own, rd_ro, rf_val, rf_own, so_un, so_val, so_own, sg_un, sg_val, sg_own, sg_gen, nb_un, nb_val, nb_own, nb_ro, bo_bor, bo_gen, ro_ro, re_bor, re_gen, ov_backN, ov_backS, ov_lend, setV_own, setV_bor, setV_gen, adr_own, adr_bor, adr_gen, ws_setIx, ws_app, fMax2, fMin2, fSub, fFdiv, fMod, fPow, fShl, fShr, fAnd, fOr, fXor, fLt, fLe, fGt, fGe, List.getElem?_cons_zero, List.getElem?_cons_succ, List.set_cons_zero, List.set_cons_succ, List.length_cons, List.length_nil, List.all_cons, List.all_nil, List.isEmpty_cons, List.isEmpty_nil, List.filterMap_cons, List.filterMap_nil, Option.isSome_some, Bool.not_true, Bool.not_false, Bool.and_true, Bool.true_and, Bool.and_false, Bool.false_and, Bool.or_false, Bool.false_or, Bool.or_true, Bool.true_or, if_true, if_false, Bool.false_eq_true, true_and, and_true, false_and, and_false, Option.isSome_none, reduceCtorEq, decide_eq_true_eq, rv_ret, rv_next, ov_endN, ov_endR, ov_endB, refR_sh, refR_fr]
  by_cases hw6 : w < 6
  · rw [if_pos hw6]
    refine fv_mono (two_ok hw0 (by omega)) ?_
    rintro r g rfl
    simp only [we_lit, we_globL, we_var, we_varF, we_1, we_2, we_lst, we_tup, we_not, we_and, we_or, we_if, we_borIx, we_sl, wi_none, wi_some, we_lr1, we_lr2, we_call, we_call0, we_callB, we_callR, we_callK, we_callT, wipeE, restE, keepS, wt_yes, wt_tru, wt_boo, wt_not, wt_and, wt_or, wa_nil, wa_cons, wp_nil, wp_cons, wq_P, wq_S, wa_seq, wa_enum, wa_zip, wa_rng1, wa_rng2, ws_skip, ws_brk, ws_cont, ws_never, on_next, on_ret, on_brk, on_cont, ws_seq, ws_ret, ws_retN, ws_drop, ws_if, ws_set, ws_setB, ws_asg, ws_par, ws_for, wg_n, wg_t, wgs_nil, wgs_cons, ov_some, ov_none, ov_sr, ov_if, ov_st, ov_put_sh, ov_put_fr, intS_int, bolS_bool, seqS_l, seqS_t, lstS_l, lstF_fr, fAdd_ii, fAdd_ss, fAdd_ll, fAdd_tt, fI_ii, fIc_ii, fMul_ii, fMul_li, ov_fEq, ov_fNe, fCmp_ii, fIn_l, fNotIn_l, fNeg_i, ov_fIx_li, ov_fIx_ti, fSl_l, fSl_t, fLen_l, fLen_t, fLen_s, fInt_i, fInt_b, fAbs_i, fList_l, fList_t, fTuple_l, fTuple_t, fBits_i, ov_fRepr, fIsi_d, fIsN_n, isi_int_int, isi_int_bool, isi_int_str, isi_int_list, isi_int_tuple, isi_int_none, isi_bool_int, isi_bool_bool, isi_bool_str, isi_bool_list, isi_bool_tuple, isi_bool_none, isi_str_int, isi_str_bool, isi_str_str, isi_str_list, isi_str_tuple, isi_str_none, isi_list_int, isi_list_bool, isi_list_str, isi_list_list, isi_list_tuple, isi_list_none, isi_tuple_int, isi_tuple_bool, isi_tuple_str, isi_tuple_list, isi_tuple_tuple, isi_tuple_none, ok_sh, ok_fr, nkk_sh, nkk_fr, nkk_pk, frm_sh, frm_fr, frm_kk, sc_int, sc_bool, sc_str, sc_none, sc_list, sc_tuple, tru_bool, tru_int, tru_none, tru_list, tru_tuple, rd_val, rd_own, rd_ro, rf_val, rf_own, so_un, so_val, so_own, sg_un, sg_val, sg_own, sg_gen, nb_un, nb_val, nb_own, nb_ro, bo_bor, bo_gen, ro_ro, re_bor, re_gen, ov_backN, ov_backS, ov_lend, setV_own, setV_bor, setV_gen, adr_own, adr_bor, adr_gen, ws_setIx, ws_app, fMax2, fMin2, fSub, fFdiv, fMod, fPow, fShl, fShr, fAnd, fOr, fXor, fLt, fLe, fGt, fGe, List.getElem?_cons_zero, List.getElem?_cons_succ, List.set_cons_zero, List.set_cons_succ, List.length_cons, List.length_nil, List.all_cons, List.all_nil, List.isEmpty_cons, List.isEmpty_nil, List.filterMap_cons, List.filterMap_nil, Option.isSome_some, Bool.not_true, Bool.not_false, Bool.and_true, Bool.true_and, Bool.and_false, Bool.false_and, Bool.or_false, Bool.false_or, Bool.or_true, Bool.true_or, if_true, if_false, Bool.false_eq_true, true_and, and_true, false_and, and_false, Option.isSome_none, reduceCtorEq, decide_eq_true_eq, rv_ret, rv_next, ov_endN, ov_endR, ov_endB, refR_sh, refR_fr]
    have hp := two_le (show w.toNat ≤ 6 by omega)
    refine ⟨decide_eq_true ⟨by decide, by decide, by have := two_pos (n := w.toNat); omega, by omega, by omega⟩, ?_⟩
    rw [rngD_map]
    refine sv_mono (rest _ _ _ ?_) ?_
    · intro z hz
      obtain ⟨k, hk, rfl⟩ := List.mem_map.mp hz
      have := List.mem_range.mp hk
      omega
    · rintro fl ρ ⟨rfl, ρ', rfl⟩
      simp only [we_lit, we_globL, we_var, we_varF, we_1, we_2, we_lst, we_tup, we_not, we_and, we_or, we_if, we_borIx, we_sl, wi_none, wi_some, we_lr1, we_lr2, we_call, we_call0, we_callB, we_callR, we_callK, we_callT, wipeE, restE, keepS, wt_yes, wt_tru, wt_boo, wt_not, wt_and, wt_or, wa_nil, wa_cons, wp_nil, wp_cons, wq_P, wq_S, wa_seq, wa_enum, wa_zip, wa_rng1, wa_rng2, ws_skip, ws_brk, ws_cont, ws_never, on_next, on_ret, on_brk, on_cont, ws_seq, ws_ret, ws_retN, ws_drop, ws_if, ws_set, ws_setB, ws_asg, ws_par, ws_for, wg_n, wg_t, wgs_nil, wgs_cons, ov_some, ov_none, ov_sr, ov_if, ov_st, ov_put_sh, ov_put_fr, intS_int, bolS_bool, seqS_l, seqS_t, lstS_l, lstF_fr, fAdd_ii, fAdd_ss, fAdd_ll, fAdd_tt, fI_ii, fIc_ii, fMul_ii, fMul_li, ov_fEq, ov_fNe, fCmp_ii, fIn_l, fNotIn_l, fNeg_i, ov_fIx_li, ov_fIx_ti, fSl_l, fSl_t, fLen_l, fLen_t, fLen_s, fInt_i, fInt_b, fAbs_i, fList_l, fList_t, fTuple_l, fTuple_t, fBits_i, ov_fRepr, fIsi_d, fIsN_n, isi_int_int, isi_int_bool, isi_int_str, isi_int_list, isi_int_tuple, isi_int_none, isi_bool_int, isi_bool_bool, isi_bool_str, isi_bool_list, isi_bool_tuple, isi_bool_none, isi_str_int, isi_str_bool, isi_str_str, isi_str_list, isi_str_tuple, isi_str_none, isi_list_int, isi_list_bool, isi_list_str, isi_list_list, isi_list_tuple, isi_list_none, isi_tuple_int, isi_tuple_bool, isi_tuple_str, isi_tuple_list, isi_tuple_tuple, isi_tuple_none, ok_sh, ok_fr, nkk_sh, nkk_fr, nkk_pk, frm_sh, frm_fr, frm_kk, sc_int, sc_bool, sc_str, sc_none, sc_list, sc_tuple, tru_bool, tru_int, tru_none, tru_list, tru_tuple, rd_val, rd_own, rd_ro, rf_val, rf_own, so_un, so_val, so_own, sg_un, sg_val, sg_own, sg_gen, nb_un, nb_val, nb_own, nb_ro, bo_bor, bo_gen, ro_ro, re_bor, re_gen, ov_backN, ov_backS, ov_lend, setV_own, setV_bor, setV_gen, adr_own, adr_bor, adr_gen, ws_setIx, ws_app, fMax2, fMin2, fSub, fFdiv, fMod, fPow, fShl, fShr, fAnd, fOr, fXor, fLt, fLe, fGt, fGe, List.getElem?_cons_zero, List.getElem?_cons_succ, List.set_cons_zero, List.set_cons_succ, List.length_cons, List.length_nil, List.all_cons, List.all_nil, List.isEmpty_cons, List.isEmpty_nil, List.filterMap_cons, List.filterMap_nil, Option.isSome_some, Bool.not_true, Bool.not_false, Bool.and_true, Bool.true_and, Bool.and_false, Bool.false_and, Bool.or_false, Bool.false_or, Bool.or_true, Bool.true_or, if_true, if_false, Bool.false_eq_true, true_and, and_true, false_and, and_false, Option.isSome_none, reduceCtorEq, decide_eq_true_eq, rv_ret, rv_next, ov_endN, ov_endR, ov_endB, refR_sh, refR_fr]
  · rw [if_neg hw6]
    simp only [we_lit, we_globL, we_var, we_varF, we_1, we_2, we_lst, we_tup, we_not, we_and, we_or, we_if, we_borIx, we_sl, wi_none, wi_some, we_lr1, we_lr2, we_call, we_call0, we_callB, we_callR, we_callK, we_callT, wipeE, restE, keepS, wt_yes, wt_tru, wt_boo, wt_not, wt_and, wt_or, wa_nil, wa_cons, wp_nil, wp_cons, wq_P, wq_S, wa_seq, wa_enum, wa_zip, wa_rng1, wa_rng2, ws_skip, ws_brk, ws_cont, ws_never, on_next, on_ret, on_brk, on_cont, ws_seq, ws_ret, ws_retN, ws_drop, ws_if, ws_set, ws_setB, ws_asg, ws_par, ws_for, wg_n, wg_t, wgs_nil, wgs_cons, ov_some, ov_none, ov_sr, ov_if, ov_st, ov_put_sh, ov_put_fr, intS_int, bolS_bool, seqS_l, seqS_t, lstS_l, lstF_fr, fAdd_ii, fAdd_ss, fAdd_ll, fAdd_tt, fI_ii, fIc_ii, fMul_ii, fMul_li, ov_fEq, ov_fNe, fCmp_ii, fIn_l, fNotIn_l, fNeg_i, ov_fIx_li, ov_fIx_ti, fSl_l, fSl_t, fLen_l, fLen_t, fLen_s, fInt_i, fInt_b, fAbs_i, fList_l, fList_t, fTuple_l, fTuple_t, fBits_i, ov_fRepr, fIsi_d, fIsN_n, isi_int_int, isi_int_bool, isi_int_str, isi_int_list, isi_int_tuple, isi_int_none, isi_bool_int, isi_bool_bool, isi_bool_str, isi_bool_list, isi_bool_tuple, isi_bool_none, isi_str_int, isi_str_bool, isi_str_str, isi_str_list, isi_str_tuple, isi_str_none, isi_list_int, isi_list_bool, isi_list_str, isi_list_list, isi_list_tuple, isi_list_none, isi_tuple_int, isi_tuple_bool, isi_tuple_str, isi_tuple_list, isi_tuple_tuple, isi_tuple_none, ok_sh, ok_fr, nkk_sh, nkk_fr, nkk_pk, frm_sh, frm_fr, frm_kk, sc_int, sc_bool, sc_str, sc_none, sc_list, sc_tuple, tru_bool, tru_int, tru_none, tru_list, tru_tuple, rd_val, rd_own, rd_ro, rf_val, rf_own, so_un, so_val, so_own, sg_un, sg_val, sg_own, sg_gen, nb_un, nb_val, nb_own, nb_ro, bo_bor, bo_gen, ro_ro, re_bor, re_gen, ov_backN, ov_backS, ov_lend, setV_own, setV_bor, setV_gen, adr_own, adr_bor, adr_gen, ws_setIx, ws_app, fMax2, fMin2, fSub, fFdiv, fMod, fPow, fShl, fShr, fAnd, fOr, fXor, fLt, fLe, fGt, fGe, List.getElem?_cons_zero, List.getElem?_cons_succ, List.set_cons_zero, List.set_cons_succ, List.length_cons, List.length_nil, List.all_cons, List.all_nil, List.isEmpty_cons, List.isEmpty_nil, List.filterMap_cons, List.filterMap_nil, Option.isSome_some, Bool.not_true, Bool.not_false, Bool.and_true, Bool.true_and, Bool.and_false, Bool.false_and, Bool.or_false, Bool.false_or, Bool.or_true, Bool.true_or, if_true, if_false, Bool.false_eq_true, true_and, and_true, false_and, and_false, Option.isSome_none, reduceCtorEq, decide_eq_true_eq, rv_ret, rv_next, ov_endN, ov_endR, ov_endB, refR_sh, refR_fr, we_lc]
    refine ⟨rngOk_of2 (by decide) (by decide), ?_⟩
    refine lc_inv (fun i acc ρ => ∃ (l : List Int) (g : List PyData), acc = l.map .int ∧ l.length = i ∧ (∀ z ∈ l, 0 ≤ z ∧ z < 2 ^ w.toNat) ∧ Gen (m + 102 + 102 + 102 + 102 * i) g ∧ ρ = [.bor g, .val false (.int w), .un, .un, .un, .un, .un, .un, .un]) ⟨[], g3, rfl, rfl, (fun z hz => by cases hz), hg3.mono (by omega), rfl⟩ ?_ ?_
    · rintro i d acc ρ hd ⟨l, g, rfl, hl, hz, hg, rfl⟩
      obtain ⟨y, rfl, hy, hy2⟩ := rngD_get hd
      simp only [we_lit, we_globL, we_var, we_varF, we_1, we_2, we_lst, we_tup, we_not, we_and, we_or, we_if, we_borIx, we_sl, wi_none, wi_some, we_lr1, we_lr2, we_call, we_call0, we_callB, we_callR, we_callK, we_callT, wipeE, restE, keepS, wt_yes, wt_tru, wt_boo, wt_not, wt_and, wt_or, wa_nil, wa_cons, wp_nil, wp_cons, wq_P, wq_S, wa_seq, wa_enum, wa_zip, wa_rng1, wa_rng2, ws_skip, ws_brk, ws_cont, ws_never, on_next, on_ret, on_brk, on_cont, ws_seq, ws_ret, ws_retN, ws_drop, ws_if, ws_set, ws_setB, ws_asg, ws_par, ws_for, wg_n, wg_t, wgs_nil, wgs_cons, ov_some, ov_none, ov_sr, ov_if, ov_st, ov_put_sh, ov_put_fr, intS_int, bolS_bool, seqS_l, seqS_t, lstS_l, lstF_fr, fAdd_ii, fAdd_ss, fAdd_ll, fAdd_tt, fI_ii, fIc_ii, fMul_ii, fMul_li, ov_fEq, ov_fNe, fCmp_ii, fIn_l, fNotIn_l, fNeg_i, ov_fIx_li, ov_fIx_ti, fSl_l, fSl_t, fLen_l, fLen_t, fLen_s, fInt_i, fInt_b, fAbs_i, fList_l, fList_t, fTuple_l, fTuple_t, fBits_i, ov_fRepr, fIsi_d, fIsN_n, isi_int_int, isi_int_bool, isi_int_str, isi_int_list, isi_int_tuple, isi_int_none, isi_bool_int, isi_bool_bool, isi_bool_str, isi_bool_list, isi_bool_tuple, isi_bool_none, isi_str_int, isi_str_bool, isi_str_str, isi_str_list, isi_str_tuple, isi_str_none, isi_list_int, isi_list_bool, isi_list_str, isi_list_list, isi_list_tuple, isi_list_none, isi_tuple_int, isi_tuple_bool, isi_tuple_str, isi_tuple_list, isi_tuple_tuple, isi_tuple_none, ok_sh, ok_fr, nkk_sh, nkk_fr, nkk_pk, frm_sh, frm_fr, frm_kk, sc_int, sc_bool, sc_str, sc_none, sc_list, sc_tuple, tru_bool, tru_int, tru_none, tru_list, tru_tuple, rd_val, rd_own, rd_ro, rf_val, rf_own, so_un, so_val, so_own, sg_un, sg_val, sg_own, sg_gen, nb_un, nb_val, nb_own, nb_ro, bo_bor, bo_gen, ro_ro, re_bor, re_gen, ov_backN, ov_backS, ov_lend, setV_own, setV_bor, setV_gen, adr_own, adr_bor, adr_gen, ws_setIx, ws_app, fMax2, fMin2, fSub, fFdiv, fMod, fPow, fShl, fShr, fAnd, fOr, fXor, fLt, fLe, fGt, fGe, List.getElem?_cons_zero, List.getElem?_cons_succ, List.set_cons_zero, List.set_cons_succ, List.length_cons, List.length_nil, List.all_cons, List.all_nil, List.isEmpty_cons, List.isEmpty_nil, List.filterMap_cons, List.filterMap_nil, Option.isSome_some, Bool.not_true, Bool.not_false, Bool.and_true, Bool.true_and, Bool.and_false, Bool.false_and, Bool.or_false, Bool.false_or, Bool.or_true, Bool.true_or, if_true, if_false, Bool.false_eq_true, true_and, and_true, false_and, and_false, Option.isSome_none, reduceCtorEq, decide_eq_true_eq, rv_ret, rv_next, ov_endN, ov_endR, ov_endB, refR_sh, refR_fr]
      refine fv_mono (two_ok hw0 (by omega)) ?_
      rintro r g' rfl
      simp only [we_lit, we_globL, we_var, we_varF, we_1, we_2, we_lst, we_tup, we_not, we_and, we_or, we_if, we_borIx, we_sl, wi_none, wi_some, we_lr1, we_lr2, we_call, we_call0, we_callB, we_callR, we_callK, we_callT, wipeE, restE, keepS, wt_yes, wt_tru, wt_boo, wt_not, wt_and, wt_or, wa_nil, wa_cons, wp_nil, wp_cons, wq_P, wq_S, wa_seq, wa_enum, wa_zip, wa_rng1, wa_rng2, ws_skip, ws_brk, ws_cont, ws_never, on_next, on_ret, on_brk, on_cont, ws_seq, ws_ret, ws_retN, ws_drop, ws_if, ws_set, ws_setB, ws_asg, ws_par, ws_for, wg_n, wg_t, wgs_nil, wgs_cons, ov_some, ov_none, ov_sr, ov_if, ov_st, ov_put_sh, ov_put_fr, intS_int, bolS_bool, seqS_l, seqS_t, lstS_l, lstF_fr, fAdd_ii, fAdd_ss, fAdd_ll, fAdd_tt, fI_ii, fIc_ii, fMul_ii, fMul_li, ov_fEq, ov_fNe, fCmp_ii, fIn_l, fNotIn_l, fNeg_i, ov_fIx_li, ov_fIx_ti, fSl_l, fSl_t, fLen_l, fLen_t, fLen_s, fInt_i, fInt_b, fAbs_i, fList_l, fList_t, fTuple_l, fTuple_t, fBits_i, ov_fRepr, fIsi_d, fIsN_n, isi_int_int, isi_int_bool, isi_int_str, isi_int_list, isi_int_tuple, isi_int_none, isi_bool_int, isi_bool_bool, isi_bool_str, isi_bool_list, isi_bool_tuple, isi_bool_none, isi_str_int, isi_str_bool, isi_str_str, isi_str_list, isi_str_tuple, isi_str_none, isi_list_int, isi_list_bool, isi_list_str, isi_list_list, isi_list_tuple, isi_list_none, isi_tuple_int, isi_tuple_bool, isi_tuple_str, isi_tuple_list, isi_tuple_tuple, isi_tuple_none, ok_sh, ok_fr, nkk_sh, nkk_fr, nkk_pk, frm_sh, frm_fr, frm_kk, sc_int, sc_bool, sc_str, sc_none, sc_list, sc_tuple, tru_bool, tru_int, tru_none, tru_list, tru_tuple, rd_val, rd_own, rd_ro, rf_val, rf_own, so_un, so_val, so_own, sg_un, sg_val, sg_own, sg_gen, nb_un, nb_val, nb_own, nb_ro, bo_bor, bo_gen, ro_ro, re_bor, re_gen, ov_backN, ov_backS, ov_lend, setV_own, setV_bor, setV_gen, adr_own, adr_bor, adr_gen, ws_setIx, ws_app, fMax2, fMin2, fSub, fFdiv, fMod, fPow, fShl, fShr, fAnd, fOr, fXor, fLt, fLe, fGt, fGe, List.getElem?_cons_zero, List.getElem?_cons_succ, List.set_cons_zero, List.set_cons_succ, List.length_cons, List.length_nil, List.all_cons, List.all_nil, List.isEmpty_cons, List.isEmpty_nil, List.filterMap_cons, List.filterMap_nil, Option.isSome_some, Bool.not_true, Bool.not_false, Bool.and_true, Bool.true_and, Bool.and_false, Bool.false_and, Bool.or_false, Bool.false_or, Bool.or_true, Bool.true_or, if_true, if_false, Bool.false_eq_true, true_and, and_true, false_and, and_false, Option.isSome_none, reduceCtorEq, decide_eq_true_eq, rv_ret, rv_next, ov_endN, ov_endR, ov_endB, refR_sh, refR_fr]
      refine fv_mono (random_ok hg (by omega) two_pos (two_abs (by omega))) ?_
      rintro r g' ⟨v, rfl, hg', hv, hv'⟩
      simp only [we_lit, we_globL, we_var, we_varF, we_1, we_2, we_lst, we_tup, we_not, we_and, we_or, we_if, we_borIx, we_sl, wi_none, wi_some, we_lr1, we_lr2, we_call, we_call0, we_callB, we_callR, we_callK, we_callT, wipeE, restE, keepS, wt_yes, wt_tru, wt_boo, wt_not, wt_and, wt_or, wa_nil, wa_cons, wp_nil, wp_cons, wq_P, wq_S, wa_seq, wa_enum, wa_zip, wa_rng1, wa_rng2, ws_skip, ws_brk, ws_cont, ws_never, on_next, on_ret, on_brk, on_cont, ws_seq, ws_ret, ws_retN, ws_drop, ws_if, ws_set, ws_setB, ws_asg, ws_par, ws_for, wg_n, wg_t, wgs_nil, wgs_cons, ov_some, ov_none, ov_sr, ov_if, ov_st, ov_put_sh, ov_put_fr, intS_int, bolS_bool, seqS_l, seqS_t, lstS_l, lstF_fr, fAdd_ii, fAdd_ss, fAdd_ll, fAdd_tt, fI_ii, fIc_ii, fMul_ii, fMul_li, ov_fEq, ov_fNe, fCmp_ii, fIn_l, fNotIn_l, fNeg_i, ov_fIx_li, ov_fIx_ti, fSl_l, fSl_t, fLen_l, fLen_t, fLen_s, fInt_i, fInt_b, fAbs_i, fList_l, fList_t, fTuple_l, fTuple_t, fBits_i, ov_fRepr, fIsi_d, fIsN_n, isi_int_int, isi_int_bool, isi_int_str, isi_int_list, isi_int_tuple, isi_int_none, isi_bool_int, isi_bool_bool, isi_bool_str, isi_bool_list, isi_bool_tuple, isi_bool_none, isi_str_int, isi_str_bool, isi_str_str, isi_str_list, isi_str_tuple, isi_str_none, isi_list_int, isi_list_bool, isi_list_str, isi_list_list, isi_list_tuple, isi_list_none, isi_tuple_int, isi_tuple_bool, isi_tuple_str, isi_tuple_list, isi_tuple_tuple, isi_tuple_none, ok_sh, ok_fr, nkk_sh, nkk_fr, nkk_pk, frm_sh, frm_fr, frm_kk, sc_int, sc_bool, sc_str, sc_none, sc_list, sc_tuple, tru_bool, tru_int, tru_none, tru_list, tru_tuple, rd_val, rd_own, rd_ro, rf_val, rf_own, so_un, so_val, so_own, sg_un, sg_val, sg_own, sg_gen, nb_un, nb_val, nb_own, nb_ro, bo_bor, bo_gen, ro_ro, re_bor, re_gen, ov_backN, ov_backS, ov_lend, setV_own, setV_bor, setV_gen, adr_own, adr_bor, adr_gen, ws_setIx, ws_app, fMax2, fMin2, fSub, fFdiv, fMod, fPow, fShl, fShr, fAnd, fOr, fXor, fLt, fLe, fGt, fGe, List.getElem?_cons_zero, List.getElem?_cons_succ, List.set_cons_zero, List.set_cons_succ, List.length_cons, List.length_nil, List.all_cons, List.all_nil, List.isEmpty_cons, List.isEmpty_nil, List.filterMap_cons, List.filterMap_nil, Option.isSome_some, Bool.not_true, Bool.not_false, Bool.and_true, Bool.true_and, Bool.and_false, Bool.false_and, Bool.or_false, Bool.false_or, Bool.or_true, Bool.true_or, if_true, if_false, Bool.false_eq_true, true_and, and_true, false_and, and_false, Option.isSome_none, reduceCtorEq, decide_eq_true_eq, rv_ret, rv_next, ov_endN, ov_endR, ov_endB, refR_sh, refR_fr]
      refine ⟨l ++ [v], g', by rw [List.map_append]; rfl, by rw [List.length_append, hl]; rfl, fun z hz' => ?_, hg'.mono (by omega), rfl⟩
      rcases List.mem_append.mp hz' with h | h
      · exact hz z h
      · rw [List.mem_singleton.mp h]
        exact ⟨hv, hv'⟩
    · rintro out ρ' ⟨l, g, rfl, hl, hz, hg, rfl⟩
      simp only [we_lit, we_globL, we_var, we_varF, we_1, we_2, we_lst, we_tup, we_not, we_and, we_or, we_if, we_borIx, we_sl, wi_none, wi_some, we_lr1, we_lr2, we_call, we_call0, we_callB, we_callR, we_callK, we_callT, wipeE, restE, keepS, wt_yes, wt_tru, wt_boo, wt_not, wt_and, wt_or, wa_nil, wa_cons, wp_nil, wp_cons, wq_P, wq_S, wa_seq, wa_enum, wa_zip, wa_rng1, wa_rng2, ws_skip, ws_brk, ws_cont, ws_never, on_next, on_ret, on_brk, on_cont, ws_seq, ws_ret, ws_retN, ws_drop, ws_if, ws_set, ws_setB, ws_asg, ws_par, ws_for, wg_n, wg_t, wgs_nil, wgs_cons, ov_some, ov_none, ov_sr, ov_if, ov_st, ov_put_sh, ov_put_fr, intS_int, bolS_bool, seqS_l, seqS_t, lstS_l, lstF_fr, fAdd_ii, fAdd_ss, fAdd_ll, fAdd_tt, fI_ii, fIc_ii, fMul_ii, fMul_li, ov_fEq, ov_fNe, fCmp_ii, fIn_l, fNotIn_l, fNeg_i, ov_fIx_li, ov_fIx_ti, fSl_l, fSl_t, fLen_l, fLen_t, fLen_s, fInt_i, fInt_b, fAbs_i, fList_l, fList_t, fTuple_l, fTuple_t, fBits_i, ov_fRepr, fIsi_d, fIsN_n, isi_int_int, isi_int_bool, isi_int_str, isi_int_list, isi_int_tuple, isi_int_none, isi_bool_int, isi_bool_bool, isi_bool_str, isi_bool_list, isi_bool_tuple, isi_bool_none, isi_str_int, isi_str_bool, isi_str_str, isi_str_list, isi_str_tuple, isi_str_none, isi_list_int, isi_list_bool, isi_list_str, isi_list_list, isi_list_tuple, isi_list_none, isi_tuple_int, isi_tuple_bool, isi_tuple_str, isi_tuple_list, isi_tuple_tuple, isi_tuple_none, ok_sh, ok_fr, nkk_sh, nkk_fr, nkk_pk, frm_sh, frm_fr, frm_kk, sc_int, sc_bool, sc_str, sc_none, sc_list, sc_tuple, tru_bool, tru_int, tru_none, tru_list, tru_tuple, rd_val, rd_own, rd_ro, rf_val, rf_own, so_un, so_val, so_own, sg_un, sg_val, sg_own, sg_gen, nb_un, nb_val, nb_own, nb_ro, bo_bor, bo_gen, ro_ro, re_bor, re_gen, ov_backN, ov_backS, ov_lend, setV_own, setV_bor, setV_gen, adr_own, adr_bor, adr_gen, ws_setIx, ws_app, fMax2, fMin2, fSub, fFdiv, fMod, fPow, fShl, fShr, fAnd, fOr, fXor, fLt, fLe, fGt, fGe, List.getElem?_cons_zero, List.getElem?_cons_succ, List.set_cons_zero, List.set_cons_succ, List.length_cons, List.length_nil, List.all_cons, List.all_nil, List.isEmpty_cons, List.isEmpty_nil, List.filterMap_cons, List.filterMap_nil, Option.isSome_some, Bool.not_true, Bool.not_false, Bool.and_true, Bool.true_and, Bool.and_false, Bool.false_and, Bool.or_false, Bool.false_or, Bool.or_true, Bool.true_or, if_true, if_false, Bool.false_eq_true, true_and, and_true, false_and, and_false, Option.isSome_none, reduceCtorEq, decide_eq_true_eq, rv_ret, rv_next, ov_endN, ov_endR, ov_endB, refR_sh, refR_fr]
      refine ⟨?_, sv_mono (rest _ _ _ hz) ?_⟩
      · rw [List.length_map, hl, rngD_len, sizeLine_eq]
        omega
      · rintro fl ρ ⟨rfl, ρ', rfl⟩
        simp only [we_lit, we_globL, we_var, we_varF, we_1, we_2, we_lst, we_tup, we_not, we_and, we_or, we_if, we_borIx, we_sl, wi_none, wi_some, we_lr1, we_lr2, we_call, we_call0, we_callB, we_callR, we_callK, we_callT, wipeE, restE, keepS, wt_yes, wt_tru, wt_boo, wt_not, wt_and, wt_or, wa_nil, wa_cons, wp_nil, wp_cons, wq_P, wq_S, wa_seq, wa_enum, wa_zip, wa_rng1, wa_rng2, ws_skip, ws_brk, ws_cont, ws_never, on_next, on_ret, on_brk, on_cont, ws_seq, ws_ret, ws_retN, ws_drop, ws_if, ws_set, ws_setB, ws_asg, ws_par, ws_for, wg_n, wg_t, wgs_nil, wgs_cons, ov_some, ov_none, ov_sr, ov_if, ov_st, ov_put_sh, ov_put_fr, intS_int, bolS_bool, seqS_l, seqS_t, lstS_l, lstF_fr, fAdd_ii, fAdd_ss, fAdd_ll, fAdd_tt, fI_ii, fIc_ii, fMul_ii, fMul_li, ov_fEq, ov_fNe, fCmp_ii, fIn_l, fNotIn_l, fNeg_i, ov_fIx_li, ov_fIx_ti, fSl_l, fSl_t, fLen_l, fLen_t, fLen_s, fInt_i, fInt_b, fAbs_i, fList_l, fList_t, fTuple_l, fTuple_t, fBits_i, ov_fRepr, fIsi_d, fIsN_n, isi_int_int, isi_int_bool, isi_int_str, isi_int_list, isi_int_tuple, isi_int_none, isi_bool_int, isi_bool_bool, isi_bool_str, isi_bool_list, isi_bool_tuple, isi_bool_none, isi_str_int, isi_str_bool, isi_str_str, isi_str_list, isi_str_tuple, isi_str_none, isi_list_int, isi_list_bool, isi_list_str, isi_list_list, isi_list_tuple, isi_list_none, isi_tuple_int, isi_tuple_bool, isi_tuple_str, isi_tuple_list, isi_tuple_tuple, isi_tuple_none, ok_sh, ok_fr, nkk_sh, nkk_fr, nkk_pk, frm_sh, frm_fr, frm_kk, sc_int, sc_bool, sc_str, sc_none, sc_list, sc_tuple, tru_bool, tru_int, tru_none, tru_list, tru_tuple, rd_val, rd_own, rd_ro, rf_val, rf_own, so_un, so_val, so_own, sg_un, sg_val, sg_own, sg_gen, nb_un, nb_val, nb_own, nb_ro, bo_bor, bo_gen, ro_ro, re_bor, re_gen, ov_backN, ov_backS, ov_lend, setV_own, setV_bor, setV_gen, adr_own, adr_bor, adr_gen, ws_setIx, ws_app, fMax2, fMin2, fSub, fFdiv, fMod, fPow, fShl, fShr, fAnd, fOr, fXor, fLt, fLe, fGt, fGe, List.getElem?_cons_zero, List.getElem?_cons_succ, List.set_cons_zero, List.set_cons_succ, List.length_cons, List.length_nil, List.all_cons, List.all_nil, List.isEmpty_cons, List.isEmpty_nil, List.filterMap_cons, List.filterMap_nil, Option.isSome_some, Bool.not_true, Bool.not_false, Bool.and_true, Bool.true_and, Bool.and_false, Bool.false_and, Bool.or_false, Bool.false_or, Bool.or_true, Bool.true_or, if_true, if_false, Bool.false_eq_true, true_and, and_true, false_and, and_false, Option.isSome_none, reduceCtorEq, decide_eq_true_eq, rv_ret, rv_next, ov_endN, ov_endR, ov_endB, refR_sh, refR_fr]
set_option maxHeartbeats 1000000 in
theorem plain : ∀ ns : List Int, ns.length ≤ 63 → ∃ t, F_law (ns.map PyData.int) [] = some (⟨.bool true, t, .sh⟩, []) := by
  intro ns hns
  have h : FV F_law (ns.map .int) [] fun r gs => r = ⟨.bool true, false, .sh⟩ ∧ gs = [] := by
    refine fv_run ?_
    show SV u_law [.ro (ns.map .int), .un] _
    unfold u_law
    simp only [we_lit, we_globL, we_var, we_varF, we_1, we_2, we_lst, we_tup, we_not, we_and, we_or, we_if, we_borIx, we_sl, wi_none, wi_some, we_lr1, we_lr2, we_call, we_call0, we_callB, we_callR, we_callK, we_callT, wipeE, restE, keepS, wt_yes, wt_tru, wt_boo, wt_not, wt_and, wt_or, wa_nil, wa_cons, wp_nil, wp_cons, wq_P, wq_S, wa_seq, wa_enum, wa_zip, wa_rng1, wa_rng2, ws_skip, ws_brk, ws_cont, ws_never, on_next, on_ret, on_brk, on_cont, ws_seq, ws_ret, ws_retN, ws_drop, ws_if, ws_set, ws_setB, ws_asg, ws_par, ws_for, wg_n, wg_t, wgs_nil, wgs_cons, ov_some, ov_none, ov_sr, ov_if, ov_st, ov_put_sh, ov_put_fr, intS_int, bolS_bool, seqS_l, seqS_t, lstS_l, lstF_fr, fAdd_ii, fAdd_ss, fAdd_ll, fAdd_tt, fI_ii, fIc_ii, fMul_ii, fMul_li, ov_fEq, ov_fNe, fCmp_ii, fIn_l, fNotIn_l, fNeg_i, ov_fIx_li, ov_fIx_ti, fSl_l, fSl_t, fLen_l, fLen_t, fLen_s, fInt_i, fInt_b, fAbs_i, fList_l, fList_t, fTuple_l, fTuple_t, fBits_i, ov_fRepr, fIsi_d, fIsN_n, isi_int_int, isi_int_bool, isi_int_str, isi_int_list, isi_int_tuple, isi_int_none, isi_bool_int, isi_bool_bool, isi_bool_str, isi_bool_list, isi_bool_tuple, isi_bool_none, isi_str_int, isi_str_bool, isi_str_str, isi_str_list, isi_str_tuple, isi_str_none, isi_list_int, isi_list_bool, isi_list_str, isi_list_list, isi_list_tuple, isi_list_none, isi_tuple_int, isi_tuple_bool, isi_tuple_str, isi_tuple_list, isi_tuple_tuple, isi_tuple_none, ok_sh, ok_fr, nkk_sh, nkk_fr, nkk_pk, frm_sh, frm_fr, frm_kk, sc_int, sc_bool, sc_str, sc_none, sc_list, sc_tuple, tru_bool, tru_int, tru_none, tru_list, tru_tuple, rd_val, rd_own, rd_ro, rf_val, rf_own, so_un, so_val, so_own, sg_un, sg_val, sg_own, sg_gen, nb_un, nb_val, nb_own, nb_ro, bo_bor, bo_gen, ro_ro, re_bor, re_gen, ov_backN, ov_backS, ov_lend, setV_own, setV_bor, setV_gen, adr_own, adr_bor, adr_gen, ws_setIx, ws_app, fMax2, fMin2, fSub, fFdiv, fMod, fPow, fShl, fShr, fAnd, fOr, fXor, fLt, fLe, fGt, fGe, List.getElem?_cons_zero, List.getElem?_cons_succ, List.set_cons_zero, List.set_cons_succ, List.length_cons, List.length_nil, List.all_cons, List.all_nil, List.isEmpty_cons, List.isEmpty_nil, List.filterMap_cons, List.filterMap_nil, Option.isSome_some, Bool.not_true, Bool.not_false, Bool.and_true, Bool.true_and, Bool.and_false, Bool.false_and, Bool.or_false, Bool.false_or, Bool.or_true, Bool.true_or, if_true, if_false, Bool.false_eq_true, true_and, and_true, false_and, and_false, Option.isSome_none, reduceCtorEq, decide_eq_true_eq, rv_ret, rv_next, ov_endN, ov_endR, ov_endB, refR_sh, refR_fr]
    refine ⟨rngOk_of2 (by decide) (by decide), ?_⟩
    refine for_inv (fun i ρ => ∃ s, ρ = [.ro (ns.map .int), s] ∧ setOk s = true) ⟨_, rfl, rfl⟩ ?_ ?_
    · rintro i d ρ hd ⟨s, rfl, hs⟩
      obtain ⟨y, rfl, hy, hy2⟩ := rngD_get hd
      obtain rfl : y = (i : Int) := by omega
      unfold v_law_1
      simp only [we_lit, we_globL, we_var, we_varF, we_1, we_2, we_lst, we_tup, we_not, we_and, we_or, we_if, we_borIx, we_sl, wi_none, wi_some, we_lr1, we_lr2, we_call, we_call0, we_callB, we_callR, we_callK, we_callT, wipeE, restE, keepS, wt_yes, wt_tru, wt_boo, wt_not, wt_and, wt_or, wa_nil, wa_cons, wp_nil, wp_cons, wq_P, wq_S, wa_seq, wa_enum, wa_zip, wa_rng1, wa_rng2, ws_skip, ws_brk, ws_cont, ws_never, on_next, on_ret, on_brk, on_cont, ws_seq, ws_ret, ws_retN, ws_drop, ws_if, ws_set, ws_setB, ws_asg, ws_par, ws_for, wg_n, wg_t, wgs_nil, wgs_cons, ov_some, ov_none, ov_sr, ov_if, ov_st, ov_put_sh, ov_put_fr, intS_int, bolS_bool, seqS_l, seqS_t, lstS_l, lstF_fr, fAdd_ii, fAdd_ss, fAdd_ll, fAdd_tt, fI_ii, fIc_ii, fMul_ii, fMul_li, ov_fEq, ov_fNe, fCmp_ii, fIn_l, fNotIn_l, fNeg_i, ov_fIx_li, ov_fIx_ti, fSl_l, fSl_t, fLen_l, fLen_t, fLen_s, fInt_i, fInt_b, fAbs_i, fList_l, fList_t, fTuple_l, fTuple_t, fBits_i, ov_fRepr, fIsi_d, fIsN_n, isi_int_int, isi_int_bool, isi_int_str, isi_int_list, isi_int_tuple, isi_int_none, isi_bool_int, isi_bool_bool, isi_bool_str, isi_bool_list, isi_bool_tuple, isi_bool_none, isi_str_int, isi_str_bool, isi_str_str, isi_str_list, isi_str_tuple, isi_str_none, isi_list_int, isi_list_bool, isi_list_str, isi_list_list, isi_list_tuple, isi_list_none, isi_tuple_int, isi_tuple_bool, isi_tuple_str, isi_tuple_list, isi_tuple_tuple, isi_tuple_none, ok_sh, ok_fr, nkk_sh, nkk_fr, nkk_pk, frm_sh, frm_fr, frm_kk, sc_int, sc_bool, sc_str, sc_none, sc_list, sc_tuple, tru_bool, tru_int, tru_none, tru_list, tru_tuple, rd_val, rd_own, rd_ro, rf_val, rf_own, so_un, so_val, so_own, sg_un, sg_val, sg_own, sg_gen, nb_un, nb_val, nb_own, nb_ro, bo_bor, bo_gen, ro_ro, re_bor, re_gen, ov_backN, ov_backS, ov_lend, setV_own, setV_bor, setV_gen, adr_own, adr_bor, adr_gen, ws_setIx, ws_app, fMax2, fMin2, fSub, fFdiv, fMod, fPow, fShl, fShr, fAnd, fOr, fXor, fLt, fLe, fGt, fGe, List.getElem?_cons_zero, List.getElem?_cons_succ, List.set_cons_zero, List.set_cons_succ, List.length_cons, List.length_nil, List.all_cons, List.all_nil, List.isEmpty_cons, List.isEmpty_nil, List.filterMap_cons, List.filterMap_nil, Option.isSome_some, Bool.not_true, Bool.not_false, Bool.and_true, Bool.true_and, Bool.and_false, Bool.false_and, Bool.or_false, Bool.false_or, Bool.or_true, Bool.true_or, if_true, if_false, Bool.false_eq_true, true_and, and_true, false_and, and_false, Option.isSome_none, reduceCtorEq, decide_eq_true_eq, rv_ret, rv_next, ov_endN, ov_endR, ov_endB, refR_sh, refR_fr, hs, eq_generator]
      refine fv_mono (generator_ok (by omega)) ?_
      rintro r g ⟨xs, rfl, rfl, hg⟩
      have hxs : xs.all sc = true := by
        obtain ⟨a, b, c, rfl, _⟩ := hg
        rfl
      simp only [we_lit, we_globL, we_var, we_varF, we_1, we_2, we_lst, we_tup, we_not, we_and, we_or, we_if, we_borIx, we_sl, wi_none, wi_some, we_lr1, we_lr2, we_call, we_call0, we_callB, we_callR, we_callK, we_callT, wipeE, restE, keepS, wt_yes, wt_tru, wt_boo, wt_not, wt_and, wt_or, wa_nil, wa_cons, wp_nil, wp_cons, wq_P, wq_S, wa_seq, wa_enum, wa_zip, wa_rng1, wa_rng2, ws_skip, ws_brk, ws_cont, ws_never, on_next, on_ret, on_brk, on_cont, ws_seq, ws_ret, ws_retN, ws_drop, ws_if, ws_set, ws_setB, ws_asg, ws_par, ws_for, wg_n, wg_t, wgs_nil, wgs_cons, ov_some, ov_none, ov_sr, ov_if, ov_st, ov_put_sh, ov_put_fr, intS_int, bolS_bool, seqS_l, seqS_t, lstS_l, lstF_fr, fAdd_ii, fAdd_ss, fAdd_ll, fAdd_tt, fI_ii, fIc_ii, fMul_ii, fMul_li, ov_fEq, ov_fNe, fCmp_ii, fIn_l, fNotIn_l, fNeg_i, ov_fIx_li, ov_fIx_ti, fSl_l, fSl_t, fLen_l, fLen_t, fLen_s, fInt_i, fInt_b, fAbs_i, fList_l, fList_t, fTuple_l, fTuple_t, fBits_i, ov_fRepr, fIsi_d, fIsN_n, isi_int_int, isi_int_bool, isi_int_str, isi_int_list, isi_int_tuple, isi_int_none, isi_bool_int, isi_bool_bool, isi_bool_str, isi_bool_list, isi_bool_tuple, isi_bool_none, isi_str_int, isi_str_bool, isi_str_str, isi_str_list, isi_str_tuple, isi_str_none, isi_list_int, isi_list_bool, isi_list_str, isi_list_list, isi_list_tuple, isi_list_none, isi_tuple_int, isi_tuple_bool, isi_tuple_str, isi_tuple_list, isi_tuple_tuple, isi_tuple_none, ok_sh, ok_fr, nkk_sh, nkk_fr, nkk_pk, frm_sh, frm_fr, frm_kk, sc_int, sc_bool, sc_str, sc_none, sc_list, sc_tuple, tru_bool, tru_int, tru_none, tru_list, tru_tuple, rd_val, rd_own, rd_ro, rf_val, rf_own, so_un, so_val, so_own, sg_un, sg_val, sg_own, sg_gen, nb_un, nb_val, nb_own, nb_ro, bo_bor, bo_gen, ro_ro, re_bor, re_gen, ov_backN, ov_backS, ov_lend, setV_own, setV_bor, setV_gen, adr_own, adr_bor, adr_gen, ws_setIx, ws_app, fMax2, fMin2, fSub, fFdiv, fMod, fPow, fShl, fShr, fAnd, fOr, fXor, fLt, fLe, fGt, fGe, List.getElem?_cons_zero, List.getElem?_cons_succ, List.set_cons_zero, List.set_cons_succ, List.length_cons, List.length_nil, List.all_cons, List.all_nil, List.isEmpty_cons, List.isEmpty_nil, List.filterMap_cons, List.filterMap_nil, Option.isSome_some, Bool.not_true, Bool.not_false, Bool.and_true, Bool.true_and, Bool.and_false, Bool.false_and, Bool.or_false, Bool.false_or, Bool.or_true, Bool.true_or, if_true, if_false, Bool.false_eq_true, true_and, and_true, false_and, and_false, Option.isSome_none, reduceCtorEq, decide_eq_true_eq, rv_ret, rv_next, ov_endN, ov_endR, ov_endB, refR_sh, refR_fr, hxs]
      refine fv_mono (right_ok hg (by omega)) ?_
      rintro r g rfl
      simp only [we_lit, we_globL, we_var, we_varF, we_1, we_2, we_lst, we_tup, we_not, we_and, we_or, we_if, we_borIx, we_sl, wi_none, wi_some, we_lr1, we_lr2, we_call, we_call0, we_callB, we_callR, we_callK, we_callT, wipeE, restE, keepS, wt_yes, wt_tru, wt_boo, wt_not, wt_and, wt_or, wa_nil, wa_cons, wp_nil, wp_cons, wq_P, wq_S, wa_seq, wa_enum, wa_zip, wa_rng1, wa_rng2, ws_skip, ws_brk, ws_cont, ws_never, on_next, on_ret, on_brk, on_cont, ws_seq, ws_ret, ws_retN, ws_drop, ws_if, ws_set, ws_setB, ws_asg, ws_par, ws_for, wg_n, wg_t, wgs_nil, wgs_cons, ov_some, ov_none, ov_sr, ov_if, ov_st, ov_put_sh, ov_put_fr, intS_int, bolS_bool, seqS_l, seqS_t, lstS_l, lstF_fr, fAdd_ii, fAdd_ss, fAdd_ll, fAdd_tt, fI_ii, fIc_ii, fMul_ii, fMul_li, ov_fEq, ov_fNe, fCmp_ii, fIn_l, fNotIn_l, fNeg_i, ov_fIx_li, ov_fIx_ti, fSl_l, fSl_t, fLen_l, fLen_t, fLen_s, fInt_i, fInt_b, fAbs_i, fList_l, fList_t, fTuple_l, fTuple_t, fBits_i, ov_fRepr, fIsi_d, fIsN_n, isi_int_int, isi_int_bool, isi_int_str, isi_int_list, isi_int_tuple, isi_int_none, isi_bool_int, isi_bool_bool, isi_bool_str, isi_bool_list, isi_bool_tuple, isi_bool_none, isi_str_int, isi_str_bool, isi_str_str, isi_str_list, isi_str_tuple, isi_str_none, isi_list_int, isi_list_bool, isi_list_str, isi_list_list, isi_list_tuple, isi_list_none, isi_tuple_int, isi_tuple_bool, isi_tuple_str, isi_tuple_list, isi_tuple_tuple, isi_tuple_none, ok_sh, ok_fr, nkk_sh, nkk_fr, nkk_pk, frm_sh, frm_fr, frm_kk, sc_int, sc_bool, sc_str, sc_none, sc_list, sc_tuple, tru_bool, tru_int, tru_none, tru_list, tru_tuple, rd_val, rd_own, rd_ro, rf_val, rf_own, so_un, so_val, so_own, sg_un, sg_val, sg_own, sg_gen, nb_un, nb_val, nb_own, nb_ro, bo_bor, bo_gen, ro_ro, re_bor, re_gen, ov_backN, ov_backS, ov_lend, setV_own, setV_bor, setV_gen, adr_own, adr_bor, adr_gen, ws_setIx, ws_app, fMax2, fMin2, fSub, fFdiv, fMod, fPow, fShl, fShr, fAnd, fOr, fXor, fLt, fLe, fGt, fGe, List.getElem?_cons_zero, List.getElem?_cons_succ, List.set_cons_zero, List.set_cons_succ, List.length_cons, List.length_nil, List.all_cons, List.all_nil, List.isEmpty_cons, List.isEmpty_nil, List.filterMap_cons, List.filterMap_nil, Option.isSome_some, Bool.not_true, Bool.not_false, Bool.and_true, Bool.true_and, Bool.and_false, Bool.false_and, Bool.or_false, Bool.false_or, Bool.or_true, Bool.true_or, if_true, if_false, Bool.false_eq_true, true_and, and_true, false_and, and_false, Option.isSome_none, reduceCtorEq, decide_eq_true_eq, rv_ret, rv_next, ov_endN, ov_endR, ov_endB, refR_sh, refR_fr]
      exact ⟨_, rfl, rfl⟩
    · rintro ρ ⟨s, rfl, hs⟩
      simp only [we_lit, we_globL, we_var, we_varF, we_1, we_2, we_lst, we_tup, we_not, we_and, we_or, we_if, we_borIx, we_sl, wi_none, wi_some, we_lr1, we_lr2, we_call, we_call0, we_callB, we_callR, we_callK, we_callT, wipeE, restE, keepS, wt_yes, wt_tru, wt_boo, wt_not, wt_and, wt_or, wa_nil, wa_cons, wp_nil, wp_cons, wq_P, wq_S, wa_seq, wa_enum, wa_zip, wa_rng1, wa_rng2, ws_skip, ws_brk, ws_cont, ws_never, on_next, on_ret, on_brk, on_cont, ws_seq, ws_ret, ws_retN, ws_drop, ws_if, ws_set, ws_setB, ws_asg, ws_par, ws_for, wg_n, wg_t, wgs_nil, wgs_cons, ov_some, ov_none, ov_sr, ov_if, ov_st, ov_put_sh, ov_put_fr, intS_int, bolS_bool, seqS_l, seqS_t, lstS_l, lstF_fr, fAdd_ii, fAdd_ss, fAdd_ll, fAdd_tt, fI_ii, fIc_ii, fMul_ii, fMul_li, ov_fEq, ov_fNe, fCmp_ii, fIn_l, fNotIn_l, fNeg_i, ov_fIx_li, ov_fIx_ti, fSl_l, fSl_t, fLen_l, fLen_t, fLen_s, fInt_i, fInt_b, fAbs_i, fList_l, fList_t, fTuple_l, fTuple_t, fBits_i, ov_fRepr, fIsi_d, fIsN_n, isi_int_int, isi_int_bool, isi_int_str, isi_int_list, isi_int_tuple, isi_int_none, isi_bool_int, isi_bool_bool, isi_bool_str, isi_bool_list, isi_bool_tuple, isi_bool_none, isi_str_int, isi_str_bool, isi_str_str, isi_str_list, isi_str_tuple, isi_str_none, isi_list_int, isi_list_bool, isi_list_str, isi_list_list, isi_list_tuple, isi_list_none, isi_tuple_int, isi_tuple_bool, isi_tuple_str, isi_tuple_list, isi_tuple_tuple, isi_tuple_none, ok_sh, ok_fr, nkk_sh, nkk_fr, nkk_pk, frm_sh, frm_fr, frm_kk, sc_int, sc_bool, sc_str, sc_none, sc_list, sc_tuple, tru_bool, tru_int, tru_none, tru_list, tru_tuple, rd_val, rd_own, rd_ro, rf_val, rf_own, so_un, so_val, so_own, sg_un, sg_val, sg_own, sg_gen, nb_un, nb_val, nb_own, nb_ro, bo_bor, bo_gen, ro_ro, re_bor, re_gen, ov_backN, ov_backS, ov_lend, setV_own, setV_bor, setV_gen, adr_own, adr_bor, adr_gen, ws_setIx, ws_app, fMax2, fMin2, fSub, fFdiv, fMod, fPow, fShl, fShr, fAnd, fOr, fXor, fLt, fLe, fGt, fGe, List.getElem?_cons_zero, List.getElem?_cons_succ, List.set_cons_zero, List.set_cons_succ, List.length_cons, List.length_nil, List.all_cons, List.all_nil, List.isEmpty_cons, List.isEmpty_nil, List.filterMap_cons, List.filterMap_nil, Option.isSome_some, Bool.not_true, Bool.not_false, Bool.and_true, Bool.true_and, Bool.and_false, Bool.false_and, Bool.or_false, Bool.false_or, Bool.or_true, Bool.true_or, if_true, if_false, Bool.false_eq_true, true_and, and_true, false_and, and_false, Option.isSome_none, reduceCtorEq, decide_eq_true_eq, rv_ret, rv_next, ov_endN, ov_endR, ov_endB, refR_sh, refR_fr]
      refine fv_mono (bits_ok (w := 0) (z := 0) (by decide) (by decide) (by decide) (by decide)) ?_
      rintro r g rfl
      have e0 : (bits (Int.toNat 0) 0).map PyData.int = [] := rfl
      have f0 : fine (.list []) := fine_ints (xs := []) (fun x h => by cases h) (by decide)
      have f1 : fine (.int 0) := fine_int (by decide)
      have z0 : (0 : Nat) ≤ sizeLine := Nat.zero_le _
      have z1 : 0 + 1 ≤ sizeLine := by decide
      have v0 : PyData.eqv (.list []) (.list []) = true := rfl
      simp only [we_lit, we_globL, we_var, we_varF, we_1, we_2, we_lst, we_tup, we_not, we_and, we_or, we_if, we_borIx, we_sl, wi_none, wi_some, we_lr1, we_lr2, we_call, we_call0, we_callB, we_callR, we_callK, we_callT, wipeE, restE, keepS, wt_yes, wt_tru, wt_boo, wt_not, wt_and, wt_or, wa_nil, wa_cons, wp_nil, wp_cons, wq_P, wq_S, wa_seq, wa_enum, wa_zip, wa_rng1, wa_rng2, ws_skip, ws_brk, ws_cont, ws_never, on_next, on_ret, on_brk, on_cont, ws_seq, ws_ret, ws_retN, ws_drop, ws_if, ws_set, ws_setB, ws_asg, ws_par, ws_for, wg_n, wg_t, wgs_nil, wgs_cons, ov_some, ov_none, ov_sr, ov_if, ov_st, ov_put_sh, ov_put_fr, intS_int, bolS_bool, seqS_l, seqS_t, lstS_l, lstF_fr, fAdd_ii, fAdd_ss, fAdd_ll, fAdd_tt, fI_ii, fIc_ii, fMul_ii, fMul_li, ov_fEq, ov_fNe, fCmp_ii, fIn_l, fNotIn_l, fNeg_i, ov_fIx_li, ov_fIx_ti, fSl_l, fSl_t, fLen_l, fLen_t, fLen_s, fInt_i, fInt_b, fAbs_i, fList_l, fList_t, fTuple_l, fTuple_t, fBits_i, ov_fRepr, fIsi_d, fIsN_n, isi_int_int, isi_int_bool, isi_int_str, isi_int_list, isi_int_tuple, isi_int_none, isi_bool_int, isi_bool_bool, isi_bool_str, isi_bool_list, isi_bool_tuple, isi_bool_none, isi_str_int, isi_str_bool, isi_str_str, isi_str_list, isi_str_tuple, isi_str_none, isi_list_int, isi_list_bool, isi_list_str, isi_list_list, isi_list_tuple, isi_list_none, isi_tuple_int, isi_tuple_bool, isi_tuple_str, isi_tuple_list, isi_tuple_tuple, isi_tuple_none, ok_sh, ok_fr, nkk_sh, nkk_fr, nkk_pk, frm_sh, frm_fr, frm_kk, sc_int, sc_bool, sc_str, sc_none, sc_list, sc_tuple, tru_bool, tru_int, tru_none, tru_list, tru_tuple, rd_val, rd_own, rd_ro, rf_val, rf_own, so_un, so_val, so_own, sg_un, sg_val, sg_own, sg_gen, nb_un, nb_val, nb_own, nb_ro, bo_bor, bo_gen, ro_ro, re_bor, re_gen, ov_backN, ov_backS, ov_lend, setV_own, setV_bor, setV_gen, adr_own, adr_bor, adr_gen, ws_setIx, ws_app, fMax2, fMin2, fSub, fFdiv, fMod, fPow, fShl, fShr, fAnd, fOr, fXor, fLt, fLe, fGt, fGe, List.getElem?_cons_zero, List.getElem?_cons_succ, List.set_cons_zero, List.set_cons_succ, List.length_cons, List.length_nil, List.all_cons, List.all_nil, List.isEmpty_cons, List.isEmpty_nil, List.filterMap_cons, List.filterMap_nil, Option.isSome_some, Bool.not_true, Bool.not_false, Bool.and_true, Bool.true_and, Bool.and_false, Bool.false_and, Bool.or_false, Bool.false_or, Bool.or_true, Bool.true_or, if_true, if_false, Bool.false_eq_true, true_and, and_true, false_and, and_false, Option.isSome_none, reduceCtorEq, decide_eq_true_eq, rv_ret, rv_next, ov_endN, ov_endR, ov_endB, refR_sh, refR_fr, e0, f0.shaped, v0, z0]
      refine fv_mono (wob_ok (bs := []) (fun x h => by cases h) (by decide)) ?_
      rintro r g rfl
      have e1 : wordV [] = 0 := rfl
      simp only [we_lit, we_globL, we_var, we_varF, we_1, we_2, we_lst, we_tup, we_not, we_and, we_or, we_if, we_borIx, we_sl, wi_none, wi_some, we_lr1, we_lr2, we_call, we_call0, we_callB, we_callR, we_callK, we_callT, wipeE, restE, keepS, wt_yes, wt_tru, wt_boo, wt_not, wt_and, wt_or, wa_nil, wa_cons, wp_nil, wp_cons, wq_P, wq_S, wa_seq, wa_enum, wa_zip, wa_rng1, wa_rng2, ws_skip, ws_brk, ws_cont, ws_never, on_next, on_ret, on_brk, on_cont, ws_seq, ws_ret, ws_retN, ws_drop, ws_if, ws_set, ws_setB, ws_asg, ws_par, ws_for, wg_n, wg_t, wgs_nil, wgs_cons, ov_some, ov_none, ov_sr, ov_if, ov_st, ov_put_sh, ov_put_fr, intS_int, bolS_bool, seqS_l, seqS_t, lstS_l, lstF_fr, fAdd_ii, fAdd_ss, fAdd_ll, fAdd_tt, fI_ii, fIc_ii, fMul_ii, fMul_li, ov_fEq, ov_fNe, fCmp_ii, fIn_l, fNotIn_l, fNeg_i, ov_fIx_li, ov_fIx_ti, fSl_l, fSl_t, fLen_l, fLen_t, fLen_s, fInt_i, fInt_b, fAbs_i, fList_l, fList_t, fTuple_l, fTuple_t, fBits_i, ov_fRepr, fIsi_d, fIsN_n, isi_int_int, isi_int_bool, isi_int_str, isi_int_list, isi_int_tuple, isi_int_none, isi_bool_int, isi_bool_bool, isi_bool_str, isi_bool_list, isi_bool_tuple, isi_bool_none, isi_str_int, isi_str_bool, isi_str_str, isi_str_list, isi_str_tuple, isi_str_none, isi_list_int, isi_list_bool, isi_list_str, isi_list_list, isi_list_tuple, isi_list_none, isi_tuple_int, isi_tuple_bool, isi_tuple_str, isi_tuple_list, isi_tuple_tuple, isi_tuple_none, ok_sh, ok_fr, nkk_sh, nkk_fr, nkk_pk, frm_sh, frm_fr, frm_kk, sc_int, sc_bool, sc_str, sc_none, sc_list, sc_tuple, tru_bool, tru_int, tru_none, tru_list, tru_tuple, rd_val, rd_own, rd_ro, rf_val, rf_own, so_un, so_val, so_own, sg_un, sg_val, sg_own, sg_gen, nb_un, nb_val, nb_own, nb_ro, bo_bor, bo_gen, ro_ro, re_bor, re_gen, ov_backN, ov_backS, ov_lend, setV_own, setV_bor, setV_gen, adr_own, adr_bor, adr_gen, ws_setIx, ws_app, fMax2, fMin2, fSub, fFdiv, fMod, fPow, fShl, fShr, fAnd, fOr, fXor, fLt, fLe, fGt, fGe, List.getElem?_cons_zero, List.getElem?_cons_succ, List.set_cons_zero, List.set_cons_succ, List.length_cons, List.length_nil, List.all_cons, List.all_nil, List.isEmpty_cons, List.isEmpty_nil, List.filterMap_cons, List.filterMap_nil, Option.isSome_some, Bool.not_true, Bool.not_false, Bool.and_true, Bool.true_and, Bool.and_false, Bool.false_and, Bool.or_false, Bool.false_or, Bool.or_true, Bool.true_or, if_true, if_false, Bool.false_eq_true, true_and, and_true, false_and, and_false, Option.isSome_none, reduceCtorEq, decide_eq_true_eq, rv_ret, rv_next, ov_endN, ov_endR, ov_endB, refR_sh, refR_fr, e1, f1.shaped, eqv_int, decide_true, z1]
      have e2 : (List.replicate (Int.toNat 64) [PyData.int 1]).flatten = (List.replicate 64 (1 : Int)).map PyData.int := rfl
      rw [e2]
      refine ⟨⟨by decide, by decide, by decide, by rw [sizeLine_eq]; decide⟩, ?_⟩
      generalize hb : List.replicate 64 (1 : Int) = bs
      have h1 : IsBits bs := fun x h => .inr (List.eq_of_mem_replicate (hb ▸ h))
      have h2 : bs.length ≤ 64 := by rw [← hb, List.length_replicate]; exact Nat.le_refl _
      have h3 : wordV bs = 18446744073709551615 := by rw [← hb]; decide +kernel
      have e7 : (2 : Int) ^ Int.toNat 64 - 1 = 18446744073709551615 := by decide +kernel
      rw [e7]
      refine fv_mono (wob_ok h1 h2) ?_
      rintro r g rfl
      have f3 : fine (.int 18446744073709551615) := fine_int (by decide)
      simp only [we_lit, we_globL, we_var, we_varF, we_1, we_2, we_lst, we_tup, we_not, we_and, we_or, we_if, we_borIx, we_sl, wi_none, wi_some, we_lr1, we_lr2, we_call, we_call0, we_callB, we_callR, we_callK, we_callT, wipeE, restE, keepS, wt_yes, wt_tru, wt_boo, wt_not, wt_and, wt_or, wa_nil, wa_cons, wp_nil, wp_cons, wq_P, wq_S, wa_seq, wa_enum, wa_zip, wa_rng1, wa_rng2, ws_skip, ws_brk, ws_cont, ws_never, on_next, on_ret, on_brk, on_cont, ws_seq, ws_ret, ws_retN, ws_drop, ws_if, ws_set, ws_setB, ws_asg, ws_par, ws_for, wg_n, wg_t, wgs_nil, wgs_cons, ov_some, ov_none, ov_sr, ov_if, ov_st, ov_put_sh, ov_put_fr, intS_int, bolS_bool, seqS_l, seqS_t, lstS_l, lstF_fr, fAdd_ii, fAdd_ss, fAdd_ll, fAdd_tt, fI_ii, fIc_ii, fMul_ii, fMul_li, ov_fEq, ov_fNe, fCmp_ii, fIn_l, fNotIn_l, fNeg_i, ov_fIx_li, ov_fIx_ti, fSl_l, fSl_t, fLen_l, fLen_t, fLen_s, fInt_i, fInt_b, fAbs_i, fList_l, fList_t, fTuple_l, fTuple_t, fBits_i, ov_fRepr, fIsi_d, fIsN_n, isi_int_int, isi_int_bool, isi_int_str, isi_int_list, isi_int_tuple, isi_int_none, isi_bool_int, isi_bool_bool, isi_bool_str, isi_bool_list, isi_bool_tuple, isi_bool_none, isi_str_int, isi_str_bool, isi_str_str, isi_str_list, isi_str_tuple, isi_str_none, isi_list_int, isi_list_bool, isi_list_str, isi_list_list, isi_list_tuple, isi_list_none, isi_tuple_int, isi_tuple_bool, isi_tuple_str, isi_tuple_list, isi_tuple_tuple, isi_tuple_none, ok_sh, ok_fr, nkk_sh, nkk_fr, nkk_pk, frm_sh, frm_fr, frm_kk, sc_int, sc_bool, sc_str, sc_none, sc_list, sc_tuple, tru_bool, tru_int, tru_none, tru_list, tru_tuple, rd_val, rd_own, rd_ro, rf_val, rf_own, so_un, so_val, so_own, sg_un, sg_val, sg_own, sg_gen, nb_un, nb_val, nb_own, nb_ro, bo_bor, bo_gen, ro_ro, re_bor, re_gen, ov_backN, ov_backS, ov_lend, setV_own, setV_bor, setV_gen, adr_own, adr_bor, adr_gen, ws_setIx, ws_app, fMax2, fMin2, fSub, fFdiv, fMod, fPow, fShl, fShr, fAnd, fOr, fXor, fLt, fLe, fGt, fGe, List.getElem?_cons_zero, List.getElem?_cons_succ, List.set_cons_zero, List.set_cons_succ, List.length_cons, List.length_nil, List.all_cons, List.all_nil, List.isEmpty_cons, List.isEmpty_nil, List.filterMap_cons, List.filterMap_nil, Option.isSome_some, Bool.not_true, Bool.not_false, Bool.and_true, Bool.true_and, Bool.and_false, Bool.false_and, Bool.or_false, Bool.false_or, Bool.or_true, Bool.true_or, if_true, if_false, Bool.false_eq_true, true_and, and_true, false_and, and_false, Option.isSome_none, reduceCtorEq, decide_eq_true_eq, rv_ret, rv_next, ov_endN, ov_endR, ov_endB, refR_sh, refR_fr, h3, f3.shaped, eqv_int, decide_true]
      generalize hz : (2 : Int) ^ Int.toNat 63 = z
      refine ⟨by decide, by decide, ?_⟩
      refine fv_mono (bits_ok (by decide) (by decide) (by rw [← hz]; decide +kernel) (by rw [← hz]; decide +kernel)) ?_
      rintro r g rfl
      have e4 : bits (Int.toNat 64) z = List.replicate 63 0 ++ [1] := by rw [← hz]; decide +kernel
      have e5 : (List.replicate (Int.toNat 63) [PyData.int 0]).flatten ++ [PyData.int 1] = (List.replicate 63 (0 : Int) ++ [1]).map PyData.int := rfl
      have e6 : (List.replicate (Int.toNat 63) [PyData.int 0]).flatten = (List.replicate 63 (0 : Int)).map PyData.int := rfl
      have f4 : fine (.list ((List.replicate 63 (0 : Int) ++ [1]).map PyData.int)) := by
        rw [← e4]
        exact fine_bits (by decide)
      rw [e4, e5, e6]
      simp only [we_lit, we_globL, we_var, we_varF, we_1, we_2, we_lst, we_tup, we_not, we_and, we_or, we_if, we_borIx, we_sl, wi_none, wi_some, we_lr1, we_lr2, we_call, we_call0, we_callB, we_callR, we_callK, we_callT, wipeE, restE, keepS, wt_yes, wt_tru, wt_boo, wt_not, wt_and, wt_or, wa_nil, wa_cons, wp_nil, wp_cons, wq_P, wq_S, wa_seq, wa_enum, wa_zip, wa_rng1, wa_rng2, ws_skip, ws_brk, ws_cont, ws_never, on_next, on_ret, on_brk, on_cont, ws_seq, ws_ret, ws_retN, ws_drop, ws_if, ws_set, ws_setB, ws_asg, ws_par, ws_for, wg_n, wg_t, wgs_nil, wgs_cons, ov_some, ov_none, ov_sr, ov_if, ov_st, ov_put_sh, ov_put_fr, intS_int, bolS_bool, seqS_l, seqS_t, lstS_l, lstF_fr, fAdd_ii, fAdd_ss, fAdd_ll, fAdd_tt, fI_ii, fIc_ii, fMul_ii, fMul_li, ov_fEq, ov_fNe, fCmp_ii, fIn_l, fNotIn_l, fNeg_i, ov_fIx_li, ov_fIx_ti, fSl_l, fSl_t, fLen_l, fLen_t, fLen_s, fInt_i, fInt_b, fAbs_i, fList_l, fList_t, fTuple_l, fTuple_t, fBits_i, ov_fRepr, fIsi_d, fIsN_n, isi_int_int, isi_int_bool, isi_int_str, isi_int_list, isi_int_tuple, isi_int_none, isi_bool_int, isi_bool_bool, isi_bool_str, isi_bool_list, isi_bool_tuple, isi_bool_none, isi_str_int, isi_str_bool, isi_str_str, isi_str_list, isi_str_tuple, isi_str_none, isi_list_int, isi_list_bool, isi_list_str, isi_list_list, isi_list_tuple, isi_list_none, isi_tuple_int, isi_tuple_bool, isi_tuple_str, isi_tuple_list, isi_tuple_tuple, isi_tuple_none, ok_sh, ok_fr, nkk_sh, nkk_fr, nkk_pk, frm_sh, frm_fr, frm_kk, sc_int, sc_bool, sc_str, sc_none, sc_list, sc_tuple, tru_bool, tru_int, tru_none, tru_list, tru_tuple, rd_val, rd_own, rd_ro, rf_val, rf_own, so_un, so_val, so_own, sg_un, sg_val, sg_own, sg_gen, nb_un, nb_val, nb_own, nb_ro, bo_bor, bo_gen, ro_ro, re_bor, re_gen, ov_backN, ov_backS, ov_lend, setV_own, setV_bor, setV_gen, adr_own, adr_bor, adr_gen, ws_setIx, ws_app, fMax2, fMin2, fSub, fFdiv, fMod, fPow, fShl, fShr, fAnd, fOr, fXor, fLt, fLe, fGt, fGe, List.getElem?_cons_zero, List.getElem?_cons_succ, List.set_cons_zero, List.set_cons_succ, List.length_cons, List.length_nil, List.all_cons, List.all_nil, List.isEmpty_cons, List.isEmpty_nil, List.filterMap_cons, List.filterMap_nil, Option.isSome_some, Bool.not_true, Bool.not_false, Bool.and_true, Bool.true_and, Bool.and_false, Bool.false_and, Bool.or_false, Bool.false_or, Bool.or_true, Bool.true_or, if_true, if_false, Bool.false_eq_true, true_and, and_true, false_and, and_false, Option.isSome_none, reduceCtorEq, decide_eq_true_eq, rv_ret, rv_next, ov_endN, ov_endR, ov_endB, refR_sh, refR_fr, f4.shaped, eqv_list, decide_true]
      exact ⟨by decide, by decide⟩
  obtain ⟨p, e, h1, h2⟩ := ov_of.mp h
  obtain ⟨r, gs⟩ := p
  cases h1
  cases h2
  exact ⟨_, e⟩
end Toy
open PySem PySem.W PyProof.Rows
set_option maxRecDepth 100000 in
set_option maxHeartbeats 0 in
theorem PySem.Challenge.cw_howeverwide_k03_whole_bits_holds : PySem.Challenge.rw_howeverwide_k03_whole_bits.Holds := by
  w_on; o_law; k_head; (case hw => w_witness2)
  k_fill
  refine Ev.walk_ev (l := PySem.Challenge.rw_howeverwide_k03_whole_bits) (n := 63) (k := 7) (x := "_law_script") (F := Toy.F_law) rfl (by decide) rfl ⟨rfl, by decide, by decide⟩ (fun w h Y => PySem.W.kIn_of Y) ?F Toy.plain
  case F =>
    intro w mg fa h KX G hmg
    refine' Toy.all_mk KX G hmg ?a0 ?l0 ?c0 ?k0 ?a1 ?l1 ?c1 ?k1 ?a2 ?l2 ?c2 ?k2 ?a3 ?l3 ?c3 ?k3 ?a4 ?l4 ?c4 ?k4 ?a5 ?l5 ?c5 ?k5 ?a6 ?l6 ?c6 ?k6 ?a7 ?l7 ?c7 ?k7 ?a8 ?l8 ?c8 ?k8 ?a9 ?l9 ?c9 ?k9 ?a10 ?l10 ?c10 ?k10 ?a11 ?l11 ?c11 ?k11 ?a12 ?l12 ?c12 ?k12 ?a13 ?l13 ?c13 ?k13 ?a14 ?l14 ?c14 ?k14 ?a15 ?l15 ?c15 ?k15 ?a16 ?l16 ?c16 ?k16 ?n_bool ?n_enumerate ?n_int ?n_isinstance ?n_len ?n_list ?n_max ?n_range ?n_repr ?n_sum ?g_MOST_BITS ?g_MOST_WIDTH
    (case a0 => k_is)
    (case l0 => k_is)
    (case c0 => k_is)
    (case k0 => k_is)
    (case a1 => k_is)
    (case l1 => k_is)
    (case c1 => k_is)
    (case k1 => k_is)
    (case a2 => k_is)
    (case l2 => k_is)
    (case c2 => k_is)
    (case k2 => k_is)
    (case a3 => k_is)
    (case l3 => k_is)
    (case c3 => k_is)
    (case k3 => k_is)
    (case a4 => k_is)
    (case l4 => k_is)
    (case c4 => k_is)
    (case k4 => k_is)
    (case a5 => k_is)
    (case l5 => k_is)
    (case c5 => k_is)
    (case k5 => k_is)
    (case a6 => k_is)
    (case l6 => k_is)
    (case c6 => k_is)
    (case k6 => k_is)
    (case a7 => k_is)
    (case l7 => k_is)
    (case c7 => k_is)
    (case k7 => k_is)
    (case a8 => k_is)
    (case l8 => k_is)
    (case c8 => k_is)
    (case k8 => k_is)
    (case a9 => k_is)
    (case l9 => k_is)
    (case c9 => k_is)
    (case k9 => k_is)
    (case a10 => k_is)
    (case l10 => k_is)
    (case c10 => k_is)
    (case k10 => k_is)
    (case a11 => k_is)
    (case l11 => k_is)
    (case c11 => k_is)
    (case k11 => k_is)
    (case a12 => k_is)
    (case l12 => k_is)
    (case c12 => k_is)
    (case k12 => k_is)
    (case a13 => k_is)
    (case l13 => k_is)
    (case c13 => k_is)
    (case k13 => k_is)
    (case a14 => k_is)
    (case l14 => k_is)
    (case c14 => k_is)
    (case k14 => k_is)
    (case a15 => k_is)
    (case l15 => k_is)
    (case c15 => k_is)
    (case k15 => k_is)
    (case a16 => k_is)
    (case l16 => k_is)
    (case c16 => k_is)
    (case k16 => k_is)
    (case n_bool => k_is)
    (case n_enumerate => k_is)
    (case n_int => k_is)
    (case n_isinstance => k_is)
    (case n_len => k_is)
    (case n_list => k_is)
    (case n_max => k_is)
    (case n_range => k_is)
    (case n_repr => k_is)
    (case n_sum => k_is)
    (case g_MOST_BITS => k_is)
    (case g_MOST_WIDTH => k_is)
