import PyProof.Rows.All
import Wide.All
import OpenK.AllK
import Wide.FinOn
import HandS.ForMost
import HandS.ForExc
import HandS.IsInst
import HandS.Flow
import HandS.Walk
import HandS.Zip
import HandS.CallSlots
import HandS.Style
import KE.KSort
import HandS.Conv
import HandS.Defaults
import PySem.Challenge.RW_risingday_k15_whole_rows_rise
set_option Elab.async false
set_option linter.all false
set_option maxRecDepth 100000
set_option maxHeartbeats 4000000
/-! The data layer, 1: data as trees, what stands for them in a heap, slots, the state of a body, outcomes. -/
namespace DL
open PySem PySem.Spec PyProof.Rows L2

inductive D where
  | non | bl (b : Bool) | int (i : Int) | str (x : Str)
  | tup (l : List D) | lst (l : List D) | seq (l : List D)
  | ins (C : Str) (fs : List (Str × D))
  | dk (kvs : List (Key × D)) | dt (kvs : List (List Key × D))
  | val (v : V)
instance : Inhabited D := ⟨.non⟩

/-- a heap's objects stay -/
def Ex (H H' : Hp) : Prop := ∀ a o, H a = some o → H' a = some o
theorem Ex.refl (H : Hp) : Ex H H := fun _ _ h => h
theorem Ex.trans {H H1 H2 : Hp} (a : Ex H H1) (b : Ex H1 H2) : Ex H H2 := fun x o h => b x o (a x o h)
theorem Ex.new {H : Hp} {p : Addr} {o : HO} (h : H p = none) : Ex H (upd H p o) := fun a u e => by
  rw [upd_ne (ne_of_none e h)]
  exact e
theorem Ex.none {H H' : Hp} (e : Ex H H') {p : Addr} (h : H' p = none) : H p = none := by
  cases h1 : H p with
  | none => rfl
  | some o => rw [e p o h1] at h; cases h

def isDc : HO → Bool
  | .dK _ => true
  | .dT _ => true
  | _ => false
/-- o stands at a, or, a dict, it is locked there -/
def Ho (H : Hp) (a : Addr) (o : HO) : Prop := H a = some o ∨ (isDc o = true ∧ ∃ ob, H a = some (.frz ob o))
def ExD (F H : Hp) : Prop := ∀ a o, F a = some o → Ho H a o
theorem Ho.plain {H : Hp} {a : Addr} {o : HO} (h : Ho H a o) (hd : isDc o = false) : H a = some o := by
  rcases h with h | ⟨h, _⟩
  · exact h
  · rw [hd] at h; cases h
theorem Ho.rd {H : Hp} {a : Addr} {o : HO} (h : Ho H a o) : Rd H a o := by
  rcases h with h | ⟨_, ob, h⟩
  · exact .inl h
  · exact .inr ⟨ob, h⟩
theorem ExD.refl (H : Hp) : ExD H H := fun _ _ h => .inl h
theorem ExD.of {F H : Hp} (e : Ex F H) : ExD F H := fun a o h => .inl (e a o h)
theorem Ex.exD {F F' H : Hp} (e : Ex F F') (h : ExD F' H) : ExD F H := fun a o q => h a o (e a o q)
theorem ExD.sqL {K : PySem.W.Frag} {F H : Hp} (e : ExD F H) {a : Addr} {vs : List V} (h : SqL K F a vs) : SqL K H a vs := by
  rcases h with (h | ⟨ob, h⟩) | h
  · exact .inl (.inl ((e a _ h).plain rfl))
  · exact .inl (.inr ⟨ob, (e a _ h).plain rfl⟩)
  · exact .inr h
theorem ExD.sqT {K : PySem.W.Frag} {F H : Hp} (e : ExD F H) {a : Addr} {vs : List V} (h : SqT K F a vs) : SqT K H a vs := by
  rcases h with (h | ⟨ob, h⟩) | h
  · exact .inl (.inl ((e a _ h).plain rfl))
  · exact .inl (.inr ⟨ob, (e a _ h).plain rfl⟩)
  · exact .inr h
theorem ExD.none {F H : Hp} (e : ExD F H) {p : Addr} (h : H p = none) : F p = none := by
  cases h1 : F p with
  | none => rfl
  | some o =>
    rcases e p o h1 with q | ⟨_, ob, q⟩ <;> rw [h] at q <;> cases q

/-! ### what stands for a datum -/
section
variable (K : PySem.W.Frag) (mg : Str → Option Value) (H : Hp)
mutual
inductive Rep : V → D → Prop
  | non : Rep .non .non
  | bl (b : Bool) : Rep (.bl b) (.bl b)
  | int (i : Int) : Rep (.int i) (.int i)
  | str (x : Str) : Rep (.str x) (.str x)
  | tup {a : Addr} {vs : List V} {ds : List D} : SqT K H a vs → Reps vs ds → Rep (.ref a) (.tup ds)
  | lst {a : Addr} {vs : List V} {ds : List D} : H a = some (.lst vs) → Reps vs ds → Rep (.ref a) (.lst ds)
  | seq {a : Addr} {vs : List V} {ds : List D} : SqL K H a vs → Reps vs ds → Rep (.ref a) (.seq ds)
  | ins {a C dx : Addr} {nm : Str} {fs : List (Str × V)} {gs : List (Str × D)} : H a = some (.ins C dx fs) → mg nm = some (.ref C) → RepP fs gs → Rep (.ref a) (.ins nm gs)
  | dk {a : Addr} {kvs : List (Key × V)} {gs : List (Key × D)} : H a = some (.dK kvs) → RepP kvs gs → Rep (.ref a) (.dk gs)
  | dt {a : Addr} {kvs : List (List Key × V)} {gs : List (List Key × D)} : H a = some (.dT kvs) → RepP kvs gs → Rep (.ref a) (.dt gs)
  | val (v : V) : Rep v (.val v)
inductive Reps : List V → List D → Prop
  | nil : Reps [] []
  | cons {v : V} {d : D} {vs : List V} {ds : List D} : Rep v d → Reps vs ds → Reps (v :: vs) (d :: ds)
inductive RepP : {κ : Type} → List (κ × V) → List (κ × D) → Prop
  | nil {κ : Type} : RepP (κ := κ) [] []
  | cons {κ : Type} {k : κ} {v : V} {d : D} {vs : List (κ × V)} {ds : List (κ × D)} : Rep v d → RepP vs ds → RepP ((k, v) :: vs) ((k, d) :: ds)
end
end
section
variable {K : PySem.W.Frag} {mg : Str → Option Value} {F F' H : Hp}
theorem ex_sqL (e : Ex F F') {a : Addr} {vs : List V} (h : SqL K F a vs) : SqL K F' a vs := (ExD.of e).sqL h
theorem ex_sqT (e : Ex F F') {a : Addr} {vs : List V} (h : SqT K F a vs) : SqT K F' a vs := (ExD.of e).sqT h
mutual
theorem Rep.ext (e : Ex F F') : ∀ {v : V} {d : D}, Rep K mg F v d → Rep K mg F' v d
  | _, _, .non => .non
  | _, _, .bl b => .bl b
  | _, _, .int i => .int i
  | _, _, .str x => .str x
  | _, _, .tup h r => .tup (ex_sqT e h) (Reps.ext e r)
  | _, _, .lst h r => .lst (e _ _ h) (Reps.ext e r)
  | _, _, .seq h r => .seq (ex_sqL e h) (Reps.ext e r)
  | _, _, .ins h m r => .ins (e _ _ h) m (RepP.ext e r)
  | _, _, .dk h r => .dk (e _ _ h) (RepP.ext e r)
  | _, _, .dt h r => .dt (e _ _ h) (RepP.ext e r)
  | _, _, .val v => .val v
theorem Reps.ext (e : Ex F F') : ∀ {vs : List V} {ds : List D}, Reps K mg F vs ds → Reps K mg F' vs ds
  | _, _, .nil => .nil
  | _, _, .cons h r => .cons (Rep.ext e h) (Reps.ext e r)
theorem RepP.ext (e : Ex F F') : ∀ {κ : Type} {vs : List (κ × V)} {ds : List (κ × D)}, RepP K mg F vs ds → RepP K mg F' vs ds
  | _, _, _, .nil => .nil
  | _, _, _, .cons h r => .cons (Rep.ext e h) (RepP.ext e r)
end
theorem Reps.length : ∀ {vs : List V} {ds : List D}, Reps K mg F vs ds → vs.length = ds.length
  | _, _, .nil => rfl
  | _, _, .cons _ r => by rw [List.length_cons, List.length_cons, Reps.length r]
theorem Reps.append : ∀ {vs ws : List V} {ds es : List D}, Reps K mg F vs ds → Reps K mg F ws es → Reps K mg F (vs ++ ws) (ds ++ es)
  | _, _, _, _, .nil, s => s
  | _, _, _, _, .cons h r, s => .cons h (Reps.append r s)
theorem Reps.one {v : V} {d : D} (h : Rep K mg F v d) : Reps K mg F [v] [d] := .cons h .nil
theorem Reps.get : ∀ {vs : List V} {ds : List D} {i : Nat} {d : D}, Reps K mg F vs ds → ds[i]? = some d → ∃ v, vs[i]? = some v ∧ Rep K mg F v d
  | _, _, _, _, .nil, e => by simp at e
  | _, _, 0, _, .cons h _, e => by simp at e; subst e; exact ⟨_, rfl, h⟩
  | _, _, i + 1, d, .cons _ r, e => by
    obtain ⟨v, h1, h2⟩ := Reps.get (i := i) (d := d) r (by simpa using e)
    exact ⟨v, by simpa using h1, h2⟩
theorem Reps.getV : ∀ {vs : List V} {ds : List D} {i : Nat} {v : V}, Reps K mg F vs ds → vs[i]? = some v → ∃ d, ds[i]? = some d ∧ Rep K mg F v d
  | _, _, _, _, .nil, e => by simp at e
  | _, _, 0, _, .cons h _, e => by simp at e; subst e; exact ⟨_, rfl, h⟩
  | _, _, i + 1, v, .cons _ r, e => by
    obtain ⟨d, h1, h2⟩ := Reps.getV (i := i) (v := v) r (by simpa using e)
    exact ⟨d, by simpa using h1, h2⟩
theorem Reps.take : ∀ {vs : List V} {ds : List D} (n : Nat), Reps K mg F vs ds → Reps K mg F (vs.take n) (ds.take n)
  | _, _, 0, _ => .nil
  | _, _, _ + 1, .nil => .nil
  | _, _, n + 1, .cons h r => .cons h (Reps.take n r)
theorem Reps.drop : ∀ {vs : List V} {ds : List D} (n : Nat), Reps K mg F vs ds → Reps K mg F (vs.drop n) (ds.drop n)
  | _, _, 0, r => r
  | _, _, _ + 1, .nil => .nil
  | _, _, n + 1, .cons _ r => Reps.drop n r
theorem Reps.set {v : V} {d : D} (h : Rep K mg F v d) : ∀ {vs : List V} {ds : List D} (n : Nat), Reps K mg F vs ds → Reps K mg F (vs.set n v) (ds.set n d)
  | _, _, _, .nil => .nil
  | _, _, 0, .cons _ r => .cons h r
  | _, _, n + 1, .cons q r => .cons q (Reps.set h n r)
theorem Reps.eraseIdx : ∀ {vs : List V} {ds : List D} (n : Nat), Reps K mg F vs ds → Reps K mg F (vs.eraseIdx n) (ds.eraseIdx n)
  | _, _, _, .nil => .nil
  | _, _, 0, .cons _ r => r
  | _, _, n + 1, .cons q r => .cons q (Reps.eraseIdx n r)
theorem Reps.dropLast {vs : List V} {ds : List D} (r : Reps K mg F vs ds) : Reps K mg F vs.dropLast ds.dropLast := by
  rw [List.dropLast_eq_take, List.dropLast_eq_take, r.length]
  exact r.take _
theorem Reps.ints (ns : List Int) : Reps K mg F (ns.map V.int) (ns.map D.int) := by
  induction ns with
  | nil => exact .nil
  | cons n r ih => exact .cons (.int n) ih
theorem Reps.of_ints : ∀ {vs : List V} {ns : List Int}, Reps K mg F vs (ns.map D.int) → vs = ns.map V.int
  | _, [], .nil => rfl
  | _, n :: ns, .cons h r => by
    cases h
    rw [Reps.of_ints r]
    rfl
theorem Reps.strs (ns : List Str) : Reps K mg F (ns.map V.str) (ns.map D.str) := by
  induction ns with
  | nil => exact .nil
  | cons n r ih => exact .cons (.str n) ih
theorem Reps.of_strs : ∀ {vs : List V} {ns : List Str}, Reps K mg F vs (ns.map D.str) → vs = ns.map V.str
  | _, [], .nil => rfl
  | _, n :: ns, .cons h r => by
    cases h
    rw [Reps.of_strs r]
    rfl
theorem Reps.of_bls : ∀ {vs : List V} {ns : List Bool}, Reps K mg F vs (ns.map D.bl) → vs = ns.map V.bl
  | _, [], .nil => rfl
  | _, n :: ns, .cons h r => by
    cases h
    rw [Reps.of_bls r]
    rfl
theorem RepP.lookup : ∀ {fs : List (Str × V)} {gs : List (Str × D)} {f : Str} {d : D}, RepP K mg F fs gs → gs.lookup f = some d → ∃ v, fs.lookup f = some v ∧ Rep K mg F v d
  | _, _, _, _, .nil, e => by simp at e
  | (k, v) :: vs, (_, d) :: ds, f, d', .cons h r, e => by
    simp only [List.lookup] at e ⊢
    by_cases q : (f == k) = true
    · rw [q] at e ⊢
      cases e
      exact ⟨v, rfl, h⟩
    · simp only [Bool.not_eq_true] at q
      rw [q] at e ⊢
      exact RepP.lookup r e
theorem RepP.lookup_none : ∀ {fs : List (Str × V)} {gs : List (Str × D)} {f : Str}, RepP K mg F fs gs → gs.lookup f = none → fs.lookup f = none
  | _, _, _, .nil, _ => rfl
  | (k, v) :: vs, (_, d) :: ds, f, .cons h r, e => by
    simp only [List.lookup] at e ⊢
    by_cases q : (f == k) = true
    · rw [q] at e; cases e
    · simp only [Bool.not_eq_true] at q
      rw [q] at e ⊢
      exact RepP.lookup_none r e
theorem RepP.length {κ : Type} : ∀ {fs : List (κ × V)} {gs : List (κ × D)}, RepP K mg F fs gs → fs.length = gs.length
  | _, _, .nil => rfl
  | _, _, .cons _ r => by rw [List.length_cons, List.length_cons, RepP.length r]
end
/-- a field put in, as putF -/
def putD (f : Str) (d : D) : List (Str × D) → List (Str × D)
  | [] => [(f, d)]
  | (g, x) :: r => if g = f then (g, d) :: r else (g, x) :: putD f d r
theorem RepP.put {K : PySem.W.Frag} {mg : Str → Option Value} {F : Hp} {f : Str} {v : V} {d : D} (h : Rep K mg F v d) : ∀ {fs : List (Str × V)} {gs : List (Str × D)}, RepP K mg F fs gs → RepP K mg F (putF f v fs) (putD f d gs)
  | _, _, .nil => .cons h .nil
  | (k, w) :: vs, (_, e) :: ds, .cons q r => by
    show RepP K mg F (if k = f then (k, v) :: vs else (k, w) :: putF f v vs) (if k = f then (k, d) :: ds else (k, e) :: putD f d ds)
    by_cases c : k = f
    · rw [if_pos c, if_pos c]
      exact .cons h r
    · rw [if_neg c, if_neg c]
      exact .cons q (RepP.put h r)

/-! ### owned cells -/
inductive CO where
  | lst (l : List D) | tup (l : List D) | dk (kvs : List (Key × D)) | dt (kvs : List (List Key × D)) | ins (C : Str) (fs : List (Str × D))
def CO.d : CO → D
  | .lst l => .lst l
  | .tup l => .tup l
  | .dk kvs => .dk kvs
  | .dt kvs => .dt kvs
  | .ins C fs => .ins C fs
section
variable (K : PySem.W.Frag) (mg : Str → Option Value) (F : Hp)
inductive COr : HO → CO → Prop
  | lst {vs : List V} {ds : List D} : Reps K mg F vs ds → COr (.lst vs) (.lst ds)
  | tup {vs : List V} {ds : List D} : Reps K mg F vs ds → COr (.tup vs) (.tup ds)
  | dk {kvs : List (Key × V)} {gs : List (Key × D)} : RepP K mg F kvs gs → COr (.dK kvs) (.dk gs)
  | dt {kvs : List (List Key × V)} {gs : List (List Key × D)} : RepP K mg F kvs gs → COr (.dT kvs) (.dt gs)
  | ins {C dx : Addr} {nm : Str} {fs : List (Str × V)} {gs : List (Str × D)} : mg nm = some (.ref C) → RepP K mg F fs gs → COr (.ins C dx fs) (.ins nm gs)
end
section
variable {K : PySem.W.Frag} {mg : Str → Option Value} {F F' : Hp}
theorem COr.ext {o : HO} {co : CO} (e : Ex F F') (h : COr K mg F o co) : COr K mg F' o co := by
  cases h with
  | lst r => exact .lst (r.ext e)
  | tup r => exact .tup (r.ext e)
  | dk r => exact .dk (r.ext e)
  | dt r => exact .dt (r.ext e)
  | ins m r => exact .ins m (r.ext e)
/-- a cell let go: its object is known from now on -/
theorem COr.rep {o : HO} {co : CO} {a : Addr} (h : COr K mg F o co) (e : F a = some o) : Rep K mg F (.ref a) co.d := by
  cases h with
  | lst r => exact .lst e r
  | tup r => exact .tup (SqT.of e) r
  | dk r => exact .dk e r
  | dt r => exact .dt e r
  | ins m r => exact .ins e m r
end

/-! ### slots -/
inductive SV where
  | no | t (d : D) | c (o : CO) | p (o : CO)
instance : Inhabited SV := ⟨.no⟩
abbrev EnvD := List SV
/-- where a body began: what was known, what stood, the parameters' cells by slots; the dicts that are locked now -/
structure Bs where
  F0 : Hp
  H0 : Hp
  C0 : Nat → Option Addr
  Lk : List Addr
def isCell : SV → Option CO
  | .c o => some o
  | .p o => some o
  | _ => none
def CellAt (ρ : EnvD) (σ : L2.St) (i : Nat) (a : Addr) : Prop := (∃ s o, ρ[i]? = some s ∧ isCell s = some o) ∧ σ[i]? = some (some (.ref a))
section
variable (K : PySem.W.Frag) (mg : Str → Option Value)
def CellR (F H : Hp) (ov : Option (Option V)) (co : CO) : Prop := ∃ a o, ov = some (some (.ref a)) ∧ H a = some o ∧ F a = none ∧ COr K mg F o co
def SlotR (F H : Hp) (ov : Option (Option V)) : SV → Prop
  | .no => True
  | .t d => ∃ v, ov = some (some v) ∧ Rep K mg F v d
  | .c co => CellR K mg F H ov co
  | .p co => CellR K mg F H ov co
structure StR (B : Bs) (F : Hp) (ρ : EnvD) (σ : L2.St) (H : Hp) : Prop where
  ex : ExD F H
  ex0 : Ex B.F0 F
  len : ρ.length = σ.length
  slot : ∀ (i : Nat) (s : SV), ρ[i]? = some s → SlotR K mg F H σ[i]? s
  apart : ∀ (i j : Nat) (a : Addr), CellAt ρ σ i a → CellAt ρ σ j a → i = j
  fresh : ∀ b, B.F0 b = none → F b ≠ none → B.H0 b = none
  frame : ∀ b o, B.H0 b = some o → (∀ i, B.C0 i ≠ some b) → H b = some o ∨ (b ∈ B.Lk ∧ isDc o = true ∧ ∃ ob, H b = some (.frz ob o))
  own : ∀ (i : Nat) (a : Addr) (o : CO), ρ[i]? = some (.c o) → σ[i]? = some (some (.ref a)) → B.H0 a = none
  par : ∀ (i : Nat) (o : CO), ρ[i]? = some (.p o) → ∃ a, σ[i]? = some (some (.ref a)) ∧ B.C0 i = some a
  pars : ∀ (i j : Nat) (a : Addr), B.C0 i = some a → B.C0 j = some a → i = j
  parF : ∀ (i : Nat) (a : Addr), B.C0 i = some a → B.F0 a = none ∧ F a = none ∧ B.H0 a ≠ none ∧ H a ≠ none
end

/-! ### outcomes -/
inductive Rs (α : Type) where
  | ok (a : α) (ρ : EnvD) | ex (c : Str) (fs : List (Str × D)) (ρ : EnvD) | bad
def Rs.bind {α β : Type} (r : Rs α) (k : α → EnvD → Rs β) : Rs β := match r with
  | .ok a ρ => k a ρ
  | .ex c fs ρ => .ex c fs ρ
  | .bad => .bad
@[simp] theorem Rs.bind_ok {α β : Type} {a : α} {ρ : EnvD} {k : α → EnvD → Rs β} : (Rs.ok a ρ).bind k = k a ρ := rfl
@[simp] theorem Rs.bind_ex {α β : Type} {c : Str} {fs : List (Str × D)} {ρ : EnvD} {k : α → EnvD → Rs β} : (Rs.ex (α := α) c fs ρ).bind k = .ex c fs ρ := rfl
@[simp] theorem Rs.bind_bad {α β : Type} {k : α → EnvD → Rs β} : (Rs.bad (α := α)).bind k = .bad := rfl
inductive RS where
  | nx (ρ : EnvD) | rt (d : D) (ρ : EnvD) | rn (co : CO) (ρ : EnvD) | bk (ρ : EnvD) | ct (ρ : EnvD) | ex (c : Str) (fs : List (Str × D)) (ρ : EnvD) | bad
def Rs.bindS {α : Type} (r : Rs α) (k : α → EnvD → RS) : RS := match r with
  | .ok a ρ => k a ρ
  | .ex c fs ρ => .ex c fs ρ
  | .bad => .bad
@[simp] theorem Rs.bindS_ok {α : Type} {a : α} {ρ : EnvD} {k : α → EnvD → RS} : (Rs.ok a ρ).bindS k = k a ρ := rfl
@[simp] theorem Rs.bindS_ex {α : Type} {c : Str} {fs : List (Str × D)} {ρ : EnvD} {k : α → EnvD → RS} : (Rs.ex (α := α) c fs ρ).bindS k = .ex c fs ρ := rfl
@[simp] theorem Rs.bindS_bad {α : Type} {k : α → EnvD → RS} : (Rs.bad (α := α)).bindS k = .bad := rfl
def RS.bind (r : RS) (k : EnvD → RS) : RS := match r with
  | .nx ρ => k ρ
  | .rt d ρ => .rt d ρ
  | .rn co ρ => .rn co ρ
  | .bk ρ => .bk ρ
  | .ct ρ => .ct ρ
  | .ex c fs ρ => .ex c fs ρ
  | .bad => .bad
@[simp] theorem RS.bind_nx {ρ : EnvD} {k : EnvD → RS} : (RS.nx ρ).bind k = k ρ := rfl
@[simp] theorem RS.bind_rt {d : D} {ρ : EnvD} {k : EnvD → RS} : (RS.rt d ρ).bind k = .rt d ρ := rfl
@[simp] theorem RS.bind_rn {co : CO} {ρ : EnvD} {k : EnvD → RS} : (RS.rn co ρ).bind k = .rn co ρ := rfl
@[simp] theorem RS.bind_bk {ρ : EnvD} {k : EnvD → RS} : (RS.bk ρ).bind k = .bk ρ := rfl
@[simp] theorem RS.bind_ct {ρ : EnvD} {k : EnvD → RS} : (RS.ct ρ).bind k = .ct ρ := rfl
@[simp] theorem RS.bind_ex {c : Str} {fs : List (Str × D)} {ρ : EnvD} {k : EnvD → RS} : (RS.ex c fs ρ).bind k = .ex c fs ρ := rfl
@[simp] theorem RS.bind_bad {k : EnvD → RS} : RS.bad.bind k = .bad := rfl
section
variable (K : PySem.W.Frag) (mg : Str → Option Value)
/-- an exception: its class by name, its own dict's fields -/
def ExR (F H : Hp) (cls : Value) (dd : Option Addr) (c : Str) (fs : List (Str × D)) : Prop :=
  ∃ (C d : Addr) (gs : List (Str × V)), mg c = some (.ref C) ∧ cls = .ref C ∧ dd = some d ∧ F d = some (.xd gs) ∧ RepP K mg F gs fs
/-- a new object, owned by nobody as yet -/
structure NewAt (B : Bs) (F H : Hp) (ρ : EnvD) (σ : L2.St) (a : Addr) (co : CO) : Prop where
  at_ : ∃ o, H a = some o ∧ COr K mg F o co
  nF : F a = none
  n0 : B.H0 a = none
  nC : ∀ i, ¬ CellAt ρ σ i a
def EndG {α : Type} (B : Bs) (F : Hp) (σ : L2.St) (W : WX) (P : α → EnvD → Hp → Hp → Prop) : Rs α → Prop
  | .ok a ρ => ∀ F' H', StR K mg B F' ρ σ H' → Ex F F' → P a ρ F' H'
  | .ex c fs ρ => ∀ cls dd F' H', StR K mg B F' ρ σ H' → Ex F F' → ExR K mg F' H' cls dd c fs → W cls dd σ H'
  | .bad => False
def EndS (B : Bs) (F : Hp) (W : WX) (Dn : Ends) : RS → Prop
  | .nx ρ => ∀ σ' F' H', StR K mg B F' ρ σ' H' → Ex F F' → Dn.nx σ' H'
  | .bk ρ => ∀ σ' F' H', StR K mg B F' ρ σ' H' → Ex F F' → Dn.bk σ' H'
  | .ct ρ => ∀ σ' F' H', StR K mg B F' ρ σ' H' → Ex F F' → Dn.ct σ' H'
  | .rn co ρ => ∀ σ' F' H' a, StR K mg B F' ρ σ' H' → Ex F F' → NewAt K mg B F' H' ρ σ' a co → Dn.rt (.ref a) H'
  | .rt d ρ => ∀ σ' F' H' v, StR K mg B F' ρ σ' H' → Ex F F' → Rep K mg F' v d → Dn.rt v H'
  | .ex c fs ρ => ∀ cls dd σ' F' H', StR K mg B F' ρ σ' H' → Ex F F' → ExR K mg F' H' cls dd c fs → W cls dd σ' H'
  | .bad => False
abbrev PV (Q : VK) : D → EnvD → Hp → Hp → Prop := fun d _ F' H' => ∀ v, Rep K mg F' v d → Q v H'
abbrev PN (B : Bs) (σ : L2.St) (Q : VK) : CO → EnvD → Hp → Hp → Prop := fun co ρ F' H' => ∀ a, NewAt K mg B F' H' ρ σ a co → Q (.ref a) H'
abbrev PB (Q : Bool → Hp → Prop) : Bool → EnvD → Hp → Hp → Prop := fun b _ _ H' => Q b H'
end
section
variable {K : PySem.W.Frag} {mg : Str → Option Value} {B : Bs} {F F1 : Hp} {σ : L2.St} {W : WX} {Dn : Ends}
theorem EndG.ext {α : Type} {P : α → EnvD → Hp → Hp → Prop} {r : Rs α} (e : Ex F F1) (h : EndG K mg B F σ W P r) : EndG K mg B F1 σ W P r := by
  cases r with
  | ok a ρ => exact fun F' H' s x => h F' H' s (e.trans x)
  | ex c fs ρ => exact fun cls dd F' H' s x => h cls dd F' H' s (e.trans x)
  | bad => exact h
theorem EndS.ext {r : RS} (e : Ex F F1) (h : EndS K mg B F W Dn r) : EndS K mg B F1 W Dn r := by
  cases r with
  | nx ρ => exact fun σ' F' H' s x => h σ' F' H' s (e.trans x)
  | bk ρ => exact fun σ' F' H' s x => h σ' F' H' s (e.trans x)
  | ct ρ => exact fun σ' F' H' s x => h σ' F' H' s (e.trans x)
  | rt d ρ => exact fun σ' F' H' v s x => h σ' F' H' v s (e.trans x)
  | rn co ρ => exact fun σ' F' H' a s x => h σ' F' H' a s (e.trans x)
  | ex c fs ρ => exact fun cls dd σ' F' H' s x => h cls dd σ' F' H' s (e.trans x)
  | bad => exact h
/-- a part runs, then what is behind it -/
theorem EndG.cont {α β : Type} {P : β → EnvD → Hp → Hp → Prop} {P' : α → EnvD → Hp → Hp → Prop} {f : Rs α} {k : α → EnvD → Rs β} (h : EndG K mg B F σ W P (f.bind k))
    (hk : ∀ a ρ1 F1 H1, StR K mg B F1 ρ1 σ H1 → Ex F F1 → EndG K mg B F1 σ W P (k a ρ1) → P' a ρ1 F1 H1) : EndG K mg B F σ W P' f := by
  cases f with
  | ok a ρ => exact fun F' H' s x => hk a ρ F' H' s x (EndG.ext x h)
  | ex c fs ρ => exact h
  | bad => exact h
theorem EndS.cont {α : Type} {P' : α → EnvD → Hp → Hp → Prop} {f : Rs α} {k : α → EnvD → RS} (h : EndS K mg B F W Dn (f.bindS k))
    (hk : ∀ a ρ1 F1 H1, StR K mg B F1 ρ1 σ H1 → Ex F F1 → EndS K mg B F1 W Dn (k a ρ1) → P' a ρ1 F1 H1) : EndG K mg B F σ W P' f := by
  cases f with
  | ok a ρ => exact fun F' H' s x => hk a ρ F' H' s x (EndS.ext x h)
  | ex c fs ρ => exact fun cls dd F' H' s x => h cls dd σ F' H' s x
  | bad => exact h
end
end DL

/-! The data layer, 2: how the state of a body goes on; operands. -/
namespace DL
open PySem PySem.Spec PyProof.Rows L2
section
variable {K : PySem.W.Frag} {mg : Str → Option Value} {B : Bs} {F F1 : Hp} {σ : L2.St} {ρ : EnvD} {H H' : Hp} {W : WX}

theorem cell_lt {i : Nat} {a : Addr} (h : CellAt ρ σ i a) : i < ρ.length := by
  obtain ⟨⟨s, o, e, _⟩, _⟩ := h
  exact (List.getElem?_eq_some_iff.mp e).1
theorem cellR_of {F H : Hp} {ov : Option (Option V)} {s : SV} {co : CO} (h : SlotR K mg F H ov s) (e : isCell s = some co) : CellR K mg F H ov co := by
  cases s <;> simp [isCell] at e
  · subst e; exact h
  · subst e; exact h
theorem StR.cell (S : StR K mg B F ρ σ H) {i : Nat} {s : SV} {co : CO} (e : ρ[i]? = some s) (c : isCell s = some co) : ∃ a o, σ[i]? = some (some (.ref a)) ∧ H a = some o ∧ F a = none ∧ COr K mg F o co ∧ CellAt ρ σ i a := by
  obtain ⟨a, o, h1, h2, h3, h4⟩ := cellR_of (S.slot i s e) c
  exact ⟨a, o, h1, h2, h3, h4, ⟨⟨s, co, e, c⟩, h1⟩⟩
/-- the heap has grown -/
theorem StR.grow (S : StR K mg B F ρ σ H) (e : Ex H H') : StR K mg B F ρ σ H' where
  ex := fun a o h => by
    rcases S.ex a o h with q | ⟨q, ob, r⟩
    · exact .inl (e _ _ q)
    · exact .inr ⟨q, ob, e _ _ r⟩
  ex0 := S.ex0
  len := S.len
  slot := fun i s h => by
    have z := S.slot i s h
    cases s with
    | no => trivial
    | t d => exact z
    | c co => obtain ⟨a, o, h1, h2, h3⟩ := z; exact ⟨a, o, h1, e _ _ h2, h3⟩
    | p co => obtain ⟨a, o, h1, h2, h3⟩ := z; exact ⟨a, o, h1, e _ _ h2, h3⟩
  apart := S.apart
  fresh := S.fresh
  frame := fun b o h n => by
    rcases S.frame b o h n with q | ⟨q, r, ob, z⟩
    · exact .inl (e _ _ q)
    · exact .inr ⟨q, r, ob, e _ _ z⟩
  own := S.own
  par := S.par
  pars := S.pars
  parF := fun i a h => by
    obtain ⟨h1, h2, h3, h4⟩ := S.parF i a h
    refine ⟨h1, h2, h3, ?_⟩
    cases q : H a with
    | none => exact absurd q h4
    | some o => rw [e _ _ q]; simp
/-- nothing of the entry stands where nothing stands now -/
theorem StR.new0 (S : StR K mg B F ρ σ H) {a : Addr} (h : H a = none) : B.H0 a = none := by
  cases q : B.H0 a with
  | none => rfl
  | some o =>
    have hc : ∀ i, B.C0 i ≠ some a := fun i e => (S.parF i a e).2.2.2 h
    rcases S.frame a o q hc with z | ⟨_, _, ob, z⟩ <;> rw [h] at z <;> cases z
theorem StR.newC (S : StR K mg B F ρ σ H) {a : Addr} (h : H a = none) (i : Nat) : ¬ CellAt ρ σ i a := fun ⟨⟨s, co, e, c⟩, e2⟩ => by
  obtain ⟨a', o, h1, h2, _⟩ := S.cell e c
  rw [e2] at h1
  cases h1
  rw [h] at h2; cases h2
/-- an object laid anew is new -/
theorem StR.newAt (S : StR K mg B F ρ σ H) {a : Addr} {o : HO} {co : CO} (h : H a = none) (r : COr K mg F o co) : StR K mg B F ρ σ (upd H a o) ∧ NewAt K mg B F (upd H a o) ρ σ a co :=
  ⟨S.grow (Ex.new h), ⟨o, upd_same, r⟩, S.ex.none h, S.new0 h, S.newC h⟩
/-- what is new is let go into what is known -/
theorem StR.fz (S : StR K mg B F ρ σ H) {a : Addr} {co : CO} (N : NewAt K mg B F H ρ σ a co) : ∃ F', StR K mg B F' ρ σ H ∧ Ex F F' ∧ Rep K mg F' (.ref a) co.d := by
  obtain ⟨⟨o, ha, hr⟩, nF, n0, nC⟩ := N
  have eF : Ex F (upd F a o) := Ex.new nF
  refine ⟨upd F a o, ⟨fun b u q => ?_, S.ex0.trans eF, S.len, fun i s q => ?_, S.apart, fun b q1 q2 => ?_, S.frame, S.own, S.par, S.pars, fun i b q => ?_⟩, eF, (hr.ext eF).rep upd_same⟩
  · by_cases c : b = a
    · subst c; rw [upd_same] at q; cases q; exact .inl ha
    · rw [upd_ne c] at q; exact S.ex b u q
  · have z := S.slot i s q
    cases s with
    | no => trivial
    | t d => obtain ⟨v, h1, h2⟩ := z; exact ⟨v, h1, h2.ext eF⟩
    | c co' =>
      obtain ⟨b, u, h1, h2, h3, h4⟩ := z
      have hb : b ≠ a := fun e => nC i ⟨⟨_, co', q, rfl⟩, by rw [h1, e]⟩
      exact ⟨b, u, h1, h2, by rw [upd_ne hb]; exact h3, h4.ext eF⟩
    | p co' =>
      obtain ⟨b, u, h1, h2, h3, h4⟩ := z
      have hb : b ≠ a := fun e => nC i ⟨⟨_, co', q, rfl⟩, by rw [h1, e]⟩
      exact ⟨b, u, h1, h2, by rw [upd_ne hb]; exact h3, h4.ext eF⟩
  · by_cases c : b = a
    · subst c; exact n0
    · rw [upd_ne c] at q2; exact S.fresh b q1 q2
  · obtain ⟨h1, h2, h3, h4⟩ := S.parF i b q
    have c : b ≠ a := fun e => by subst e; exact h3 n0
    exact ⟨h1, by rw [upd_ne c]; exact h2, h3, h4⟩

/-- the slots are told otherwise: slot i alone -/
theorem getset {α : Type} {l : List α} {i j : Nat} {x y : α} (h : (l.set i x)[j]? = some y) : (j = i ∧ y = x ∧ i < l.length) ∨ (j ≠ i ∧ l[j]? = some y) := by
  by_cases c : j = i
  · subst c
    have hl : j < (l.set j x).length := (List.getElem?_eq_some_iff.mp h).1
    rw [List.length_set] at hl
    rw [List.getElem?_set_self hl] at h
    cases h
    exact .inl ⟨rfl, rfl, hl⟩
  · rw [List.getElem?_set_ne (Ne.symm c)] at h
    exact .inr ⟨c, h⟩
/-- an owned cell is let go -/
theorem StR.fzSlot (S : StR K mg B F ρ σ H) {i : Nat} {co : CO} (e : ρ[i]? = some (.c co)) : ∃ F' v, StR K mg B F' (ρ.set i (.t co.d)) σ H ∧ Ex F F' ∧ σ[i]? = some (some v) ∧ Rep K mg F' v co.d := by
  obtain ⟨a, o, h1, h2, h3, h4, h5⟩ := S.cell e rfl
  have n0 := S.own i a co e h1
  have eF : Ex F (upd F a o) := Ex.new h3
  have hrep : Rep K mg (upd F a o) (.ref a) co.d := (h4.ext eF).rep upd_same
  have other : ∀ (j : Nat) (s : SV) (c' : CO) (b : Addr), j ≠ i → ρ[j]? = some s → isCell s = some c' → σ[j]? = some (some (.ref b)) → b ≠ a := fun j s c' b hj hs hc hb z => hj (S.apart j i a ⟨⟨s, c', hs, hc⟩, by rw [hb, z]⟩ h5)
  refine ⟨upd F a o, .ref a, ⟨fun b u q => ?_, S.ex0.trans eF, by rw [List.length_set]; exact S.len, fun j s q => ?_, fun j k b hj hk => ?_, fun b q1 q2 => ?_, S.frame, fun j b o' q1 q2 => ?_, fun j o' q => ?_, S.pars, fun j b q => ?_⟩, eF, h1, hrep⟩
  · by_cases c : b = a
    · subst c; rw [upd_same] at q; cases q; exact .inl h2
    · rw [upd_ne c] at q; exact S.ex b u q
  · rcases getset q with ⟨rfl, rfl, _⟩ | ⟨hj, q⟩
    · exact ⟨.ref a, h1, hrep⟩
    · have z := S.slot j s q
      cases s with
      | no => trivial
      | t d => obtain ⟨v, g1, g2⟩ := z; exact ⟨v, g1, g2.ext eF⟩
      | c co' =>
        obtain ⟨b, u, g1, g2, g3, g4⟩ := z
        exact ⟨b, u, g1, g2, by rw [upd_ne (other j _ co' b hj q rfl g1)]; exact g3, g4.ext eF⟩
      | p co' =>
        obtain ⟨b, u, g1, g2, g3, g4⟩ := z
        exact ⟨b, u, g1, g2, by rw [upd_ne (other j _ co' b hj q rfl g1)]; exact g3, g4.ext eF⟩
  · have back : ∀ {j : Nat}, CellAt (ρ.set i (.t co.d)) σ j b → CellAt ρ σ j b := fun {j} ⟨⟨s, c', q, hc⟩, q2⟩ => by
      rcases getset q with ⟨rfl, rfl, _⟩ | ⟨_, q⟩
      · simp [isCell] at hc
      · exact ⟨⟨s, c', q, hc⟩, q2⟩
    exact S.apart j k b (back hj) (back hk)
  · by_cases c : b = a
    · subst c; exact n0
    · rw [upd_ne c] at q2; exact S.fresh b q1 q2
  · rcases getset q1 with ⟨_, z, _⟩ | ⟨_, q1⟩
    · cases z
    · exact S.own j b o' q1 q2
  · rcases getset q with ⟨_, z, _⟩ | ⟨_, q⟩
    · cases z
    · exact S.par j o' q
  · obtain ⟨g1, g2, g3, g4⟩ := S.parF j b q
    have c : b ≠ a := fun z => by subst z; exact g3 n0
    exact ⟨g1, by rw [upd_ne c]; exact g2, g3, g4⟩
/-- a slot is stored: a datum -/
theorem StR.put (S : StR K mg B F ρ σ H) {i : Nat} {v : V} {d : D} (r : Rep K mg F v d) (np : ∀ o, ρ[i]? ≠ some (.p o)) : StR K mg B F (ρ.set i (.t d)) (σ.set i (some v)) H := by
  refine ⟨S.ex, S.ex0, by rw [List.length_set, List.length_set]; exact S.len, fun j s q => ?_, fun j k b hj hk => ?_, S.fresh, S.frame, fun j b o' q1 q2 => ?_, fun j o' q => ?_, S.pars, S.parF⟩
  · rcases getset q with ⟨rfl, rfl, hl⟩ | ⟨hj, q⟩
    · exact ⟨v, List.getElem?_set_self (by rw [← S.len]; exact hl), r⟩
    · have z := S.slot j s q
      rw [List.getElem?_set_ne (Ne.symm hj)]
      exact z
  · have back : ∀ {j : Nat}, CellAt (ρ.set i (.t d)) (σ.set i (some v)) j b → CellAt ρ σ j b := fun {j} ⟨⟨s, c', q, hc⟩, q2⟩ => by
      rcases getset q with ⟨rfl, rfl, _⟩ | ⟨hj, q⟩
      · simp [isCell] at hc
      · rw [List.getElem?_set_ne (Ne.symm hj)] at q2
        exact ⟨⟨s, c', q, hc⟩, q2⟩
    exact S.apart j k b (back hj) (back hk)
  · rcases getset q1 with ⟨_, z, _⟩ | ⟨hj, q1⟩
    · cases z
    · rw [List.getElem?_set_ne (Ne.symm hj)] at q2
      exact S.own j b o' q1 q2
  · rcases getset q with ⟨_, z, _⟩ | ⟨hj, q⟩
    · cases z
    · rw [List.getElem?_set_ne (Ne.symm hj)]
      exact S.par j o' q
/-- .. a new object, owned by the slot -/
theorem StR.putN (S : StR K mg B F ρ σ H) {i : Nat} {a : Addr} {co : CO} (N : NewAt K mg B F H ρ σ a co) (np : ∀ o, ρ[i]? ≠ some (.p o)) : StR K mg B F (ρ.set i (.c co)) (σ.set i (some (.ref a))) H := by
  obtain ⟨⟨o, ha, hr⟩, nF, n0, nC⟩ := N
  refine ⟨S.ex, S.ex0, by rw [List.length_set, List.length_set]; exact S.len, fun j s q => ?_, fun j k b hj hk => ?_, S.fresh, S.frame, fun j b o' q1 q2 => ?_, fun j o' q => ?_, S.pars, S.parF⟩
  · rcases getset q with ⟨rfl, rfl, hl⟩ | ⟨hj, q⟩
    · exact ⟨a, o, List.getElem?_set_self (by rw [← S.len]; exact hl), ha, nF, hr⟩
    · have z := S.slot j s q
      rw [List.getElem?_set_ne (Ne.symm hj)]
      exact z
  · have back : ∀ {j : Nat}, CellAt (ρ.set i (.c co)) (σ.set i (some (.ref a))) j b → (j = i ∧ b = a) ∨ (j ≠ i ∧ CellAt ρ σ j b) := fun {j} ⟨⟨s, c', q, hc⟩, q2⟩ => by
      rcases getset q with ⟨rfl, rfl, hl⟩ | ⟨hj, q⟩
      · rw [List.getElem?_set_self (by rw [← S.len]; exact hl)] at q2
        cases q2
        exact .inl ⟨rfl, rfl⟩
      · rw [List.getElem?_set_ne (Ne.symm hj)] at q2
        exact .inr ⟨hj, ⟨⟨s, c', q, hc⟩, q2⟩⟩
    rcases back hj with ⟨e1, e2⟩ | ⟨e1, e2⟩
    · rcases back hk with ⟨g1, g2⟩ | ⟨g1, g2⟩
      · rw [e1, g1]
      · exact absurd (e2 ▸ g2) (nC k)
    · rcases back hk with ⟨g1, g2⟩ | ⟨g1, g2⟩
      · exact absurd (g2 ▸ e2) (nC j)
      · exact S.apart j k b e2 g2
  · rcases getset q1 with ⟨z1, z, hl⟩ | ⟨hj, q1⟩
    · subst z1
      rw [List.getElem?_set_self (by rw [← S.len]; exact hl)] at q2
      cases q2
      exact n0
    · rw [List.getElem?_set_ne (Ne.symm hj)] at q2
      exact S.own j b o' q1 q2
  · rcases getset q with ⟨_, z, _⟩ | ⟨hj, q⟩
    · cases z
    · rw [List.getElem?_set_ne (Ne.symm hj)]
      exact S.par j o' q
/-- an owned cell is written -/
def reCell (s : SV) (co : CO) : SV := match s with
  | .c _ => .c co
  | .p _ => .p co
  | s => s
theorem StR.write (S : StR K mg B F ρ σ H) {i : Nat} {s : SV} {co co' : CO} {a : Addr} {o' : HO} (e : ρ[i]? = some s) (c : isCell s = some co) (ha : σ[i]? = some (some (.ref a))) (r : COr K mg F o' co') : StR K mg B F (ρ.set i (reCell s co')) σ (upd H a o') := by
  obtain ⟨b, o, h1, h2, h3, h4, h5⟩ := S.cell e c
  rw [ha] at h1
  cases h1
  have hne : ∀ (b : Addr) (u : HO), F b = some u → b ≠ a := fun b u q => ne_of_none q h3
  have hc' : isCell (reCell s co') = some co' := by cases s <;> simp [isCell] at c <;> rfl
  refine ⟨fun b u q => ?_, S.ex0, by rw [List.length_set]; exact S.len, fun j t q => ?_, fun j k b hj hk => ?_, S.fresh, fun b u q n => ?_, fun j b u q1 q2 => ?_, fun j u q => ?_, S.pars, fun j b q => ?_⟩
  · rcases S.ex b u q with z | ⟨z, ob, w⟩
    · exact .inl (by rw [upd_ne (hne b u q)]; exact z)
    · exact .inr ⟨z, ob, by rw [upd_ne (hne b u q)]; exact w⟩
  · rcases getset q with ⟨rfl, rfl, hl⟩ | ⟨hj, q⟩
    · have z : CellR K mg F (upd H a o') σ[j]? co' := ⟨a, o', ha, upd_same, h3, r⟩
      cases s with
      | c _ => exact z
      | p _ => exact z
      | no => simp [isCell] at c
      | t _ => simp [isCell] at c
    · have z := S.slot j t q
      have cell : ∀ (co2 : CO), isCell t = some co2 → CellR K mg F H σ[j]? co2 → CellR K mg F (upd H a o') σ[j]? co2 := fun co2 ht ⟨b, u, g1, g2, g3, g4⟩ => by
        have hb : b ≠ a := fun z => hj (S.apart j i a ⟨⟨t, co2, q, ht⟩, by rw [g1, z]⟩ h5)
        exact ⟨b, u, g1, by rw [upd_ne hb]; exact g2, g3, g4⟩
      cases t with
      | no => trivial
      | t d => exact z
      | c co2 => exact cell co2 rfl z
      | p co2 => exact cell co2 rfl z
  · have back : ∀ {j : Nat}, CellAt (ρ.set i (reCell s co')) σ j b → CellAt ρ σ j b := fun {j} ⟨⟨t, c', q, hc⟩, q2⟩ => by
      rcases getset q with ⟨rfl, rfl, _⟩ | ⟨_, q⟩
      · exact ⟨⟨s, co, e, c⟩, q2⟩
      · exact ⟨⟨t, c', q, hc⟩, q2⟩
    exact S.apart j k b (back hj) (back hk)
  · have hba : b ≠ a := fun z => by
      subst z
      cases s with
      | c co2 => rw [S.own i b co2 e ha] at q; cases q
      | p co2 =>
        obtain ⟨a', g1, g2⟩ := S.par i co2 e
        rw [ha] at g1
        cases g1
        exact n i g2
      | no => simp [isCell] at c
      | t _ => simp [isCell] at c
    rw [upd_ne hba]
    exact S.frame b u q n
  · rcases getset q1 with ⟨z1, z, hl⟩ | ⟨_, q1⟩
    · subst z1
      cases s with
      | c co2 =>
        exact S.own j b co2 e q2
      | p co2 => cases z
      | no => simp [isCell] at c
      | t _ => simp [isCell] at c
    · exact S.own j b u q1 q2
  · rcases getset q with ⟨z1, z, hl⟩ | ⟨_, q⟩
    · subst z1
      cases s with
      | p co2 => exact S.par j co2 e
      | c co2 => cases z
      | no => simp [isCell] at c
      | t _ => simp [isCell] at c
    · exact S.par j u q
  · obtain ⟨g1, g2, g3, g4⟩ := S.parF j b q
    refine ⟨g1, g2, g3, ?_⟩
    by_cases z : b = a
    · rw [z, upd_same]; simp
    · rw [upd_ne z]; exact g4
/-- slots forgotten -/
theorem StR.forget {ρ' : EnvD} {σ' : L2.St} (S : StR K mg B F ρ σ H) (hl : ρ'.length = σ'.length) (h : ∀ (i : Nat) (s : SV), ρ'[i]? = some s → s = .no ∨ (ρ[i]? = some s ∧ σ'[i]? = σ[i]?)) : StR K mg B F ρ' σ' H := by
  have back : ∀ {j : Nat} {b : Addr}, CellAt ρ' σ' j b → CellAt ρ σ j b := fun {j b} ⟨⟨s, c', q, hc⟩, q2⟩ => by
    rcases h j s q with z | ⟨z1, z2⟩
    · subst z; simp [isCell] at hc
    · exact ⟨⟨s, c', z1, hc⟩, by rw [← z2]; exact q2⟩
  refine ⟨S.ex, S.ex0, hl, fun j s q => ?_, fun j k b hj hk => S.apart j k b (back hj) (back hk), S.fresh, S.frame, fun j b o q1 q2 => ?_, fun j o q => ?_, S.pars, S.parF⟩
  · rcases h j s q with z | ⟨z1, z2⟩
    · subst z; trivial
    · rw [z2]; exact S.slot j s z1
  · rcases h j _ q1 with z | ⟨z1, z2⟩
    · cases z
    · exact S.own j b o z1 (by rw [← z2]; exact q2)
  · rcases h j _ q with z | ⟨z1, z2⟩
    · cases z
    · rw [z2]; exact S.par j o z1
end

/-! ### operands: a datum, or the slot that holds it, to be looked at when all are there -/
inductive PD where
  | d (d : D) | v (i : Nat)
def viewD (ρ : EnvD) (i : Nat) : Option D := match ρ[i]? with
  | some (.t d) => some d
  | some (.c co) => some co.d
  | some (.p co) => some co.d
  | _ => none
def PD.get (ρ : EnvD) : PD → Option D
  | .d x => some x
  | .v i => viewD ρ i
def PRep (K : PySem.W.Frag) (mg : Str → Option Value) (F : Hp) (σ : L2.St) (v : V) : PD → Prop
  | .d d => Rep K mg F v d
  | .v i => σ[i]? = some (some v)
/-- a datum stands for the value as it is now: known, or in a cell -/
def RepV (K : PySem.W.Frag) (mg : Str → Option Value) (F H : Hp) (v : V) (d : D) : Prop := Rep K mg F v d ∨ ∃ a o co, v = .ref a ∧ H a = some o ∧ COr K mg F o co ∧ d = co.d
section
variable {K : PySem.W.Frag} {mg : Str → Option Value} {B : Bs} {F F1 : Hp} {σ : L2.St} {ρ : EnvD} {H H' : Hp}
theorem PRep.ext {v : V} {p : PD} (e : Ex F F1) (h : PRep K mg F σ v p) : PRep K mg F1 σ v p := by
  cases p with
  | d d => exact Rep.ext e h
  | v i => exact h
theorem PRep.get {v : V} {p : PD} {d : D} (S : StR K mg B F ρ σ H) (h : PRep K mg F σ v p) (g : p.get ρ = some d) : RepV K mg F H v d := by
  cases p with
  | d d' => cases g; exact .inl h
  | v i =>
    have h : σ[i]? = some (some v) := h
    simp only [PD.get, viewD] at g
    cases e : ρ[i]? with
    | none => rw [e] at g; cases g
    | some s =>
      rw [e] at g
      have z := S.slot i s e
      cases s with
      | no => cases g
      | t d' =>
        cases g
        obtain ⟨u, h1, h2⟩ := z
        rw [h] at h1; cases h1
        exact .inl h2
      | c co =>
        cases g
        obtain ⟨a, o, h1, h2, h3, h4⟩ := z
        rw [h] at h1; cases h1
        exact .inr ⟨a, o, co, rfl, h2, h4, rfl⟩
      | p co =>
        cases g
        obtain ⟨a, o, h1, h2, h3, h4⟩ := z
        rw [h] at h1; cases h1
        exact .inr ⟨a, o, co, rfl, h2, h4, rfl⟩
theorem RepV.seq {v : V} {ds : List D} (e : ExD F H) (h : RepV K mg F H v (.seq ds)) : ∃ a vs, v = .ref a ∧ SqL K H a vs ∧ Reps K mg F vs ds := by
  rcases h with h | ⟨a, o, co, rfl, h1, h2, h3⟩
  · cases h with
    | seq h r => exact ⟨_, _, rfl, e.sqL h, r⟩
  · cases co <;> cases h3
theorem RepV.lst {v : V} {ds : List D} (e : ExD F H) (h : RepV K mg F H v (.lst ds)) : ∃ a vs, v = .ref a ∧ H a = some (.lst vs) ∧ Reps K mg F vs ds := by
  rcases h with h | ⟨a, o, co, rfl, h1, h2, h3⟩
  · cases h with
    | lst h r => exact ⟨_, _, rfl, (e _ _ h).plain rfl, r⟩
  · cases h2 with
    | lst r => cases h3; exact ⟨a, _, rfl, h1, r⟩
    | tup r => cases h3
    | dk r => cases h3
    | dt r => cases h3
    | ins m r => cases h3
theorem RepV.tup {v : V} {ds : List D} (e : ExD F H) (h : RepV K mg F H v (.tup ds)) : ∃ a vs, v = .ref a ∧ SqT K H a vs ∧ Reps K mg F vs ds := by
  rcases h with h | ⟨a, o, co, rfl, h1, h2, h3⟩
  · cases h with
    | tup h r => exact ⟨_, _, rfl, e.sqT h, r⟩
  · cases h2 with
    | lst r => cases h3
    | tup r => cases h3; exact ⟨a, _, rfl, SqT.of h1, r⟩
    | dk r => cases h3
    | dt r => cases h3
    | ins m r => cases h3
theorem RepV.int {v : V} {i : Int} (h : RepV K mg F H v (.int i)) : v = .int i := by
  rcases h with h | ⟨a, o, co, rfl, h1, h2, h3⟩
  · cases h; rfl
  · cases co <;> cases h3
theorem RepV.str {v : V} {i : Str} (h : RepV K mg F H v (.str i)) : v = .str i := by
  rcases h with h | ⟨a, o, co, rfl, h1, h2, h3⟩
  · cases h; rfl
  · cases co <;> cases h3
theorem RepV.bl {v : V} {i : Bool} (h : RepV K mg F H v (.bl i)) : v = .bl i := by
  rcases h with h | ⟨a, o, co, rfl, h1, h2, h3⟩
  · cases h; rfl
  · cases co <;> cases h3
theorem RepV.non {v : V} (h : RepV K mg F H v .non) : v = .non := by
  rcases h with h | ⟨a, o, co, rfl, h1, h2, h3⟩
  · cases h; rfl
  · cases co <;> cases h3
theorem RepV.ins {v : V} {nm : Str} {gs : List (Str × D)} (e : ExD F H) (h : RepV K mg F H v (.ins nm gs)) : ∃ a C dx fs, v = .ref a ∧ H a = some (.ins C dx fs) ∧ mg nm = some (.ref C) ∧ RepP K mg F fs gs := by
  rcases h with h | ⟨a, o, co, rfl, h1, h2, h3⟩
  · cases h with
    | ins h m r => exact ⟨_, _, _, _, rfl, (e _ _ h).plain rfl, m, r⟩
  · cases h2 with
    | lst r => cases h3
    | tup r => cases h3
    | dk r => cases h3
    | dt r => cases h3
    | ins m r => cases h3; exact ⟨a, _, _, _, rfl, h1, m, r⟩
theorem RepV.dk {v : V} {gs : List (Key × D)} (e : ExD F H) (h : RepV K mg F H v (.dk gs)) : ∃ a kvs, v = .ref a ∧ Rd H a (.dK kvs) ∧ RepP K mg F kvs gs := by
  rcases h with h | ⟨a, o, co, rfl, h1, h2, h3⟩
  · cases h with
    | dk h r => exact ⟨_, _, rfl, (e _ _ h).rd, r⟩
  · cases h2 with
    | lst r => cases h3
    | tup r => cases h3
    | dk r => cases h3; exact ⟨a, _, rfl, .inl h1, r⟩
    | dt r => cases h3
    | ins m r => cases h3
theorem RepV.dt {v : V} {gs : List (List Key × D)} (e : ExD F H) (h : RepV K mg F H v (.dt gs)) : ∃ a kvs, v = .ref a ∧ Rd H a (.dT kvs) ∧ RepP K mg F kvs gs := by
  rcases h with h | ⟨a, o, co, rfl, h1, h2, h3⟩
  · cases h with
    | dt h r => exact ⟨_, _, rfl, (e _ _ h).rd, r⟩
  · cases h2 with
    | lst r => cases h3
    | tup r => cases h3
    | dk r => cases h3
    | dt r => cases h3; exact ⟨a, _, rfl, .inl h1, r⟩
    | ins m r => cases h3
end
end DL

/-! The data layer, 3: expressions. -/
namespace DL
open PySem PySem.Spec PyProof.Rows L2

def optR {α : Type} (o : Option α) (ρ : EnvD) : Rs α := match o with
  | some a => .ok a ρ
  | none => .bad
@[simp] theorem optR_some {α : Type} {a : α} {ρ : EnvD} : optR (some a) ρ = .ok a ρ := rfl
@[simp] theorem optR_none {α : Type} {ρ : EnvD} : optR (none : Option α) ρ = .bad := rfl
theorem EndG.opt {K : PySem.W.Frag} {mg : Str → Option Value} {B : Bs} {F : Hp} {σ : L2.St} {W : WX} {α : Type} {P : α → EnvD → Hp → Hp → Prop} {o : Option α} {ρ : EnvD} (h : EndG K mg B F σ W P (optR o ρ)) : ∃ a, o = some a ∧ EndG K mg B F σ W P (.ok a ρ) := by
  cases o with
  | none => exact h.elim
  | some a => exact ⟨a, rfl, h⟩

section
variable (X : Cx) (W : WX)
abbrev PO (K : PySem.W.Frag) (mg : Str → Option Value) (σ : L2.St) (Q : VK) : PD → EnvD → Hp → Hp → Prop := fun pd _ F' _H' => ∀ v, PRep K mg F' σ v pd → Q v _H'
abbrev PAs (K : PySem.W.Frag) (mg : Str → Option Value) (Q : List V → Hp → Prop) : List D → EnvD → Hp → Hp → Prop := fun ds _ F' H' => ∀ vs, Reps K mg F' vs ds → Q vs H'
def PReps (K : PySem.W.Frag) (mg : Str → Option Value) (F : Hp) (σ : L2.St) : List V → List PD → Prop
  | [], [] => True
  | v :: vs, p :: ps => PRep K mg F σ v p ∧ PReps K mg F σ vs ps
  | _, _ => False
abbrev POs (K : PySem.W.Frag) (mg : Str → Option Value) (σ : L2.St) (Q : List V → Hp → Prop) : List PD → EnvD → Hp → Hp → Prop := fun ps _ F' H' => ∀ vs, PReps K mg F' σ vs ps → Q vs H'
def DSnd (te : TE) (f : EnvD → Rs D) : Prop := ∀ B F ρ σ H Q, StR X.K X.mg B F ρ σ H → EndG X.K X.mg B F σ W (PV X.K X.mg Q) (f ρ) → te σ H Q
def OSnd (te : TE) (f : EnvD → Rs PD) : Prop := ∀ B F ρ σ H Q, StR X.K X.mg B F ρ σ H → EndG X.K X.mg B F σ W (PO X.K X.mg σ Q) (f ρ) → te σ H Q
def NSnd (te : TE) (f : EnvD → Rs CO) : Prop := ∀ B F ρ σ H Q, StR X.K X.mg B F ρ σ H → EndG X.K X.mg B F σ W (PN X.K X.mg B σ Q) (f ρ) → te σ H Q
def TSnd (tt : TT) (f : EnvD → Rs Bool) : Prop := ∀ B F ρ σ H Q, StR X.K X.mg B F ρ σ H → EndG X.K X.mg B F σ W (PB Q) (f ρ) → tt σ H Q
def ASnd (ta : TA) (f : EnvD → Rs (List D)) : Prop := ∀ B F ρ σ H Q, StR X.K X.mg B F ρ σ H → EndG X.K X.mg B F σ W (PAs X.K X.mg Q) (f ρ) → ta σ H Q
def OASnd (ta : TA) (f : EnvD → Rs (List PD)) : Prop := ∀ B F ρ σ H Q, StR X.K X.mg B F ρ σ H → EndG X.K X.mg B F σ W (POs X.K X.mg σ Q) (f ρ) → ta σ H Q
/-- e gives the datum that f tells | an operand | a new object | as a test | several -/
structure DE (e : Expr) (f : EnvD → Rs D) : Prop where mk :: ex : ∃ te, PE X e te ∧ DSnd X W te f
structure OE (e : Expr) (f : EnvD → Rs PD) : Prop where mk :: ex : ∃ te, PE X e te ∧ OSnd X W te f
structure NE (e : Expr) (f : EnvD → Rs CO) : Prop where mk :: ex : ∃ te, PE X e te ∧ NSnd X W te f
structure DT (e : Expr) (f : EnvD → Rs Bool) : Prop where mk :: ex : ∃ te, PT X e te ∧ TSnd X W te f
structure DW (e : Expr) (f : EnvD → Rs Bool) : Prop where mk :: ex : ∃ te, PW X e te ∧ TSnd X W te f
structure DA (es : List Expr) (f : EnvD → Rs (List D)) : Prop where mk :: ex : ∃ te, PA X es te ∧ ASnd X W te f
structure OA (es : List Expr) (f : EnvD → Rs (List PD)) : Prop where mk :: ex : ∃ te, PA X es te ∧ OASnd X W te f
end

/-! ### names, constants, operands -/
def eC (d : D) : EnvD → Rs D := fun ρ => .ok d ρ
def eVar (i : Nat) : EnvD → Rs D := fun ρ => match ρ[i]? with
  | some (.t d) => .ok d ρ
  | some (.c co) => .ok co.d (ρ.set i (.t co.d))
  | _ => .bad
def pE (f : EnvD → Rs D) : EnvD → Rs PD := fun ρ => (f ρ).bind fun d ρ' => .ok (.d d) ρ'
def pV (i : Nat) : EnvD → Rs PD := fun ρ => (optR (viewD ρ i) ρ).bind fun _ ρ' => .ok (.v i) ρ'
def fz (f : EnvD → Rs CO) : EnvD → Rs D := fun ρ => (f ρ).bind fun co ρ' => .ok co.d ρ'
section
variable {X : Cx} {W : WX} {e a b : Expr} {pos : Pos}
theorem de_of {v : V} {d : D} {te : TE} (h : PE X e (tC v)) (r : ∀ F, Rep X.K X.mg F v d) : DE X W e (eC d) :=
  ⟨_, h, fun B F ρ σ H Q S z => z F H S (Ex.refl F) v (r F)⟩
theorem de_int {i : Int} {j : Nat} : DE X W (.Constant (.int i) j pos) (eC (.int i)) := ⟨_, pe_int, fun B F ρ σ H Q S z => z F H S (Ex.refl F) _ (.int i)⟩
theorem de_bl {i : Bool} {j : Nat} : DE X W (.Constant (.bool i) j pos) (eC (.bl i)) := ⟨_, pe_bl, fun B F ρ σ H Q S z => z F H S (Ex.refl F) _ (.bl i)⟩
theorem de_non {j : Nat} : DE X W (.Constant .none j pos) (eC .non) := ⟨_, pe_non, fun B F ρ σ H Q S z => z F H S (Ex.refl F) _ .non⟩
theorem de_str {x : Str} {j : Nat} : DE X W (.Constant (.str x) j pos) (eC (.str x)) := ⟨_, pe_str, fun B F ρ σ H Q S z => z F H S (Ex.refl F) _ (.str x)⟩
theorem slot_v {K : PySem.W.Frag} {mg : Str → Option Value} {B : Bs} {F : Hp} {σ : L2.St} {ρ : EnvD} {H : Hp} (S : StR K mg B F ρ σ H) {i : Nat} {d : D} (h : viewD ρ i = some d) : ∃ v, σ[i]? = some (some v) := by
  unfold viewD at h
  cases e : ρ[i]? with
  | none => rw [e] at h; cases h
  | some s =>
    rw [e] at h
    have z := S.slot i s e
    cases s with
    | no => cases h
    | t d' => obtain ⟨u, h1, _⟩ := z; exact ⟨u, h1⟩
    | c co => obtain ⟨a, _, h1, _⟩ := z; exact ⟨_, h1⟩
    | p co => obtain ⟨a, _, h1, _⟩ := z; exact ⟨_, h1⟩
theorem var_snd (i : Nat) : DSnd X W (tVar i) (eVar i) := by
  intro B F ρ σ H Q S z
  unfold eVar at z
  cases e : ρ[i]? with
  | none => rw [e] at z; exact z.elim
  | some s =>
    rw [e] at z
    cases s with
    | no => exact z.elim
    | p co => exact z.elim
    | t d =>
      obtain ⟨v, h1, h2⟩ := S.slot i _ e
      exact ⟨v, h1, z F H S (Ex.refl F) v h2⟩
    | c co =>
      obtain ⟨F', v, S', e1, h1, h2⟩ := S.fzSlot e
      exact ⟨v, h1, z F' H S' e1 v h2⟩
theorem ov_snd (i : Nat) : OSnd X W (tVar i) (pV i) := by
  intro B F ρ σ H Q S z
  unfold pV at z
  cases e : viewD ρ i with
  | none => rw [e] at z; exact z.elim
  | some d =>
    rw [e] at z
    obtain ⟨v, h1⟩ := slot_v S e
    exact ⟨v, h1, z F H S (Ex.refl F) v h1⟩
theorem de_var (i : Nat) {x : Str} (hN : X.N[i]? = some x := by rfl) (hv : Vis X.env.scope x := by first | exact Or.inl rfl | exact Or.inr (Or.inl rfl) | exact Or.inr (Or.inr rfl)) (hd : (x == ("__debug__" : Str)) = false := by decide)
    (hcd : (x == ("__classdict__" : Str)) = false := by decide) : DE X W (.Name x pos) (eVar i) := ⟨_, pe_var hN hv hd hcd, var_snd i⟩
theorem oe_var (i : Nat) {x : Str} (hN : X.N[i]? = some x := by rfl) (hv : Vis X.env.scope x := by first | exact Or.inl rfl | exact Or.inr (Or.inl rfl) | exact Or.inr (Or.inr rfl)) (hd : (x == ("__debug__" : Str)) = false := by decide)
    (hcd : (x == ("__classdict__" : Str)) = false := by decide) : OE X W (.Name x pos) (pV i) := ⟨_, pe_var hN hv hd hcd, ov_snd i⟩
theorem oe_snd {te : TE} {f : EnvD → Rs D} (h : DSnd X W te f) : OSnd X W te (pE f) := fun B F ρ σ H Q S z =>
  h B F ρ σ H Q S (EndG.cont z fun d ρ1 F1 H1 S1 e1 z1 v r => z1 F1 H1 S1 (Ex.refl F1) v r)
theorem oe (h : DE X W e f) : OE X W e (pE f) := let ⟨te, h1, h2⟩ := h.ex; ⟨te, h1, oe_snd h2⟩
theorem fz_snd {te : TE} {f : EnvD → Rs CO} (h : NSnd X W te f) : DSnd X W te (fz f) := fun B F ρ σ H Q S z =>
  h B F ρ σ H Q S (EndG.cont z fun co ρ1 F1 H1 S1 e1 z1 a N => by
    obtain ⟨F2, S2, e2, r⟩ := S1.fz N
    exact z1 F2 H1 S2 e2 _ r)
theorem de_fz {f : EnvD → Rs CO} (h : NE X W e f) : DE X W e (fz f) := let ⟨te, h1, h2⟩ := h.ex; ⟨te, h1, fz_snd h2⟩
end

/-! ### operations on operands -/
def eOp1 (g : D → Option D) (a : EnvD → Rs PD) : EnvD → Rs D := fun ρ => (a ρ).bind fun p ρ1 => optR ((p.get ρ1).bind g) ρ1
def eOp2 (g : D → D → Option D) (a b : EnvD → Rs PD) : EnvD → Rs D := fun ρ => (a ρ).bind fun p ρ1 => (b ρ1).bind fun q ρ2 => optR ((p.get ρ2).bind fun x => (q.get ρ2).bind fun y => g x y) ρ2
def nOp1 (g : D → Option CO) (a : EnvD → Rs PD) : EnvD → Rs CO := fun ρ => (a ρ).bind fun p ρ1 => optR ((p.get ρ1).bind g) ρ1
def nOp2 (g : D → D → Option CO) (a b : EnvD → Rs PD) : EnvD → Rs CO := fun ρ => (a ρ).bind fun p ρ1 => (b ρ1).bind fun q ρ2 => optR ((p.get ρ2).bind fun x => (q.get ρ2).bind fun y => g x y) ρ2
section
variable (X : Cx)
def Op1D (r : V → Hp → VK → Prop) (g : D → Option D) : Prop := ∀ B F ρ σ H x dx d Q, StR X.K X.mg B F ρ σ H → RepV X.K X.mg F H x dx → g dx = some d →
  (∀ v F' H', StR X.K X.mg B F' ρ σ H' → Ex F F' → Rep X.K X.mg F' v d → Q v H') → r x H Q
def Op2D (r : R2) (g : D → D → Option D) : Prop := ∀ B F ρ σ H x y dx dy d Q, StR X.K X.mg B F ρ σ H → RepV X.K X.mg F H x dx → RepV X.K X.mg F H y dy → g dx dy = some d →
  (∀ v F' H', StR X.K X.mg B F' ρ σ H' → Ex F F' → Rep X.K X.mg F' v d → Q v H') → r x y H Q
def Op2N (r : R2) (g : D → D → Option CO) : Prop := ∀ B F ρ σ H x y dx dy d Q, StR X.K X.mg B F ρ σ H → RepV X.K X.mg F H x dx → RepV X.K X.mg F H y dy → g dx dy = some d →
  (∀ a F' H', StR X.K X.mg B F' ρ σ H' → Ex F F' → NewAt X.K X.mg B F' H' ρ σ a d → Q (.ref a) H') → r x y H Q
end
section
variable {X : Cx} {W : WX} {e a b : Expr} {pos : Pos} {ta tb : TE} {pa pb : EnvD → Rs PD}
theorem op1_snd {r : V → Hp → VK → Prop} {g : D → Option D} (ha : OSnd X W ta pa) (hg : Op1D X r g) : DSnd X W (tUn r ta) (eOp1 g pa) := fun B F ρ σ H Q S z =>
  ha B F ρ σ H _ S (EndG.cont z fun p ρ1 F1 H1 S1 e1 z1 v hv => by
    obtain ⟨d, hd, z2⟩ := z1.opt
    obtain ⟨dx, h1, h2⟩ := Option.bind_eq_some_iff.mp hd
    exact hg B F1 ρ1 σ H1 v dx d Q S1 (hv.get S1 h1) h2 fun u F' H' S' e' r' => z2 F' H' S' e' u r')
/-- two operands, then what is done with them -/
theorem two_snd {α : Type} {P : α → EnvD → Hp → Hp → Prop} {g : D → D → Option α} (ha : OSnd X W ta pa) (hb : OSnd X W tb pb) {B : Bs} {F : Hp} {ρ : EnvD} {σ : L2.St} {H : Hp} {R : V → V → Hp → Prop} (S : StR X.K X.mg B F ρ σ H)
    (z : EndG X.K X.mg B F σ W P ((pa ρ).bind fun p ρ1 => (pb ρ1).bind fun q ρ2 => optR ((p.get ρ2).bind fun x => (q.get ρ2).bind fun y => g x y) ρ2))
    (k : ∀ ρ2 F2 H2 x y dx dy d, StR X.K X.mg B F2 ρ2 σ H2 → RepV X.K X.mg F2 H2 x dx → RepV X.K X.mg F2 H2 y dy → g dx dy = some d → EndG X.K X.mg B F2 σ W P (.ok d ρ2) → R x y H2) :
    ta σ H fun x H1 => tb σ H1 fun y H2 => R x y H2 :=
  ha B F ρ σ H _ S (EndG.cont z fun p ρ1 F1 H1 S1 e1 z1 v hv =>
    hb B F1 ρ1 σ H1 _ S1 (EndG.cont z1 fun q ρ2 F2 H2 S2 e2 z2 u hu => by
      obtain ⟨d, hd, z3⟩ := z2.opt
      obtain ⟨dx, h1, hd⟩ := Option.bind_eq_some_iff.mp hd
      obtain ⟨dy, h2, h3⟩ := Option.bind_eq_some_iff.mp hd
      exact k ρ2 F2 H2 v u dx dy d S2 ((hv.ext e2).get S2 h1) (hu.get S2 h2) h3 z3))
theorem op2_snd {r : R2} {g : D → D → Option D} (ha : OSnd X W ta pa) (hb : OSnd X W tb pb) (hg : Op2D X r g) : DSnd X W (tOp r ta tb) (eOp2 g pa pb) := fun B F ρ σ H Q S z =>
  two_snd ha hb S z fun ρ2 F2 H2 x y dx dy d S2 hx hy h3 z3 => hg B F2 ρ2 σ H2 x y dx dy d Q S2 hx hy h3 fun w F' H' S' e' r' => z3 F' H' S' e' w r'
theorem nop2_snd {r : R2} {g : D → D → Option CO} (ha : OSnd X W ta pa) (hb : OSnd X W tb pb) (hg : Op2N X r g) : NSnd X W (tOp r ta tb) (nOp2 g pa pb) := fun B F ρ σ H Q S z =>
  two_snd ha hb S z fun ρ2 F2 H2 x y dx dy d S2 hx hy h3 z3 => hg B F2 ρ2 σ H2 x y dx dy d Q S2 hx hy h3 fun w F' H' S' e' r' => z3 F' H' S' e' w r'
theorem de_bin {op : Operator} {r : R2} {g : D → D → Option D} (ho : OpR X (binaryOp op) r) (hg : Op2D X r g) (ha : OE X W a pa) (hb : OE X W b pb) : DE X W (.BinOp a op b pos) (eOp2 g pa pb) :=
  let ⟨_, h1, h2⟩ := ha.ex; let ⟨_, h3, h4⟩ := hb.ex; ⟨_, pe_op ho h1 h3, op2_snd h2 h4 hg⟩
theorem ne_bin {op : Operator} {r : R2} {g : D → D → Option CO} (ho : OpR X (binaryOp op) r) (hg : Op2N X r g) (ha : OE X W a pa) (hb : OE X W b pb) : NE X W (.BinOp a op b pos) (nOp2 g pa pb) :=
  let ⟨_, h1, h2⟩ := ha.ex; let ⟨_, h3, h4⟩ := hb.ex; ⟨_, pe_op ho h1 h3, nop2_snd h2 h4 hg⟩
theorem de_un {op : UnaryOp} {r : V → Hp → VK → Prop} {g : D → Option D} (ho : UnR X (unaryOp op) r) (hg : Op1D X r g) (ha : OE X W a pa) : DE X W (.UnaryOp op a pos) (eOp1 g pa) :=
  let ⟨_, h1, h2⟩ := ha.ex; ⟨_, pe_un ho h1, op1_snd h2 hg⟩
theorem de_cmp {op : CmpOp} {r : R2} {g : D → D → Option D} (ho : OpR X (compareOp op) r) (hg : Op2D X r g) (ha : OE X W a pa) (hb : OE X W b pb) (hm : behindInMarks op b = false) : DE X W (.Compare a [op] [b] pos) (eOp2 g pa pb) :=
  let ⟨_, h1, h2⟩ := ha.ex; let ⟨_, h3, h4⟩ := hb.ex; ⟨_, pe_cmpR ho h1 h3 hm, op2_snd h2 h4 hg⟩
/-- what is a truth, as a test -/
def tB (f : EnvD → Rs D) : EnvD → Rs Bool := fun ρ => (f ρ).bind fun d ρ' => match d with
  | .bl b => .ok b ρ'
  | _ => .bad
theorem tB_snd {te : TE} {f : EnvD → Rs D} (h : DSnd X W te f) : TSnd X W (tTest te) (tB f) := fun B F ρ σ H Q S z =>
  h B F ρ σ H _ S (EndG.cont z fun d ρ1 F1 H1 S1 e1 z1 v r => by
    cases d with
    | bl k => cases r; exact ⟨k, rfl, z1 F1 H1 S1 (Ex.refl F1)⟩
    | _ => exact z1.elim)
theorem dt_cmp {op : CmpOp} {r : R2} {g : D → D → Option D} (ho : OpR X (compareOp op) r) (hg : Op2D X r g) (ha : OE X W a pa) (hb : OE X W b pb) (hm : behindInMarks op b = false) : DT X W (.Compare a [op] [b] pos) (tB (eOp2 g pa pb)) :=
  let ⟨_, h1, h2⟩ := ha.ex; let ⟨_, h3, h4⟩ := hb.ex; ⟨_, pt_cmpR ho h1 h3 hm, tB_snd (op2_snd h2 h4 hg)⟩
/-- a op b op' c -/
def eChain (g g' : D → D → Option D) (a b c : EnvD → Rs PD) : EnvD → Rs D := fun ρ => (a ρ).bind fun p ρ1 => (b ρ1).bind fun q ρ2 => (optR ((p.get ρ2).bind fun x => (q.get ρ2).bind fun y => g x y) ρ2).bind fun z ρ3 => match z with
  | .bl true => (c ρ3).bind fun t ρ4 => optR ((q.get ρ4).bind fun y => (t.get ρ4).bind fun w => g' y w) ρ4
  | .bl false => .ok (.bl false) ρ3
  | _ => .bad
/-! ### truth -/
def truD : D → Option Bool
  | .non => some false
  | .bl b => some b
  | .int i => some (i != 0)
  | .str y => if y.length ≤ sizeLine then some ((y.length : Int) != 0) else none
  | .lst l => some (!l.isEmpty)
  | .seq l => some (!l.isEmpty)
  | .tup l => some (!l.isEmpty)
  | _ => none
theorem Reps.isEmpty {K : PySem.W.Frag} {mg : Str → Option Value} {F : Hp} {vs : List V} {ds : List D} (r : Reps K mg F vs ds) : vs.isEmpty = ds.isEmpty := by cases r <;> rfl
theorem tru_of {K : PySem.W.Frag} {mg : Str → Option Value} {F H : Hp} {v : V} {d : D} {k : Bool} (e : ExD F H) (h : RepV K mg F H v d) (hk : truD d = some k) : TruV K v H k := by
  cases d with
  | non => cases h.non; cases hk; rfl
  | bl b => cases h.bl; cases hk; rfl
  | int i => cases h.int; cases hk; rfl
  | str y =>
    cases h.str
    have hk : (if y.length ≤ sizeLine then some ((y.length : Int) != 0) else none) = some k := hk
    by_cases c : y.length ≤ sizeLine
    · rw [if_pos c] at hk
      cases hk
      exact ⟨c, rfl⟩
    · rw [if_neg c] at hk
      cases hk
  | lst l => obtain ⟨a, vs, rfl, h1, h2⟩ := h.lst e; cases hk; exact .inl ⟨vs, SqL.of h1, by rw [h2.isEmpty]⟩
  | seq l => obtain ⟨a, vs, rfl, h1, h2⟩ := h.seq e; cases hk; exact .inl ⟨vs, h1, by rw [h2.isEmpty]⟩
  | tup l => obtain ⟨a, vs, rfl, h1, h2⟩ := h.tup e; cases hk; exact .inr (.inl ⟨vs, h1, by rw [h2.isEmpty]⟩)
  | ins C fs => cases hk
  | dk l => cases hk
  | dt l => cases hk
  | val u => cases hk
def tTr (p : EnvD → Rs PD) : EnvD → Rs Bool := fun ρ => (p ρ).bind fun q ρ1 => optR ((q.get ρ1).bind truD) ρ1
theorem dt_tru (ha : OE X W a pa) (he : ∀ whole, isTrue a X.env whole = (do let v ← whole; standAt a.pos; holding [v] (truthy v)) := by intro _; rfl) : DT X W a (tTr pa) := by
  obtain ⟨ta, h1, h2⟩ := ha.ex
  refine ⟨_, pt_truth h1 he, fun B F ρ σ H Q S z => ?_⟩
  exact h2 B F ρ σ H _ S (EndG.cont z fun p ρ1 F1 H1 S1 e1 z1 v hv => by
    obtain ⟨k, hk, z2⟩ := z1.opt
    obtain ⟨dx, h3, h4⟩ := Option.bind_eq_some_iff.mp hk
    exact ⟨k, tru_of S1.ex (hv.get S1 h3) h4, z2 F1 H1 S1 (Ex.refl F1)⟩)
/-! ### if, and, or, not -/
def eIf {α : Type} (c : EnvD → Rs Bool) (a b : EnvD → Rs α) : EnvD → Rs α := fun ρ => (c ρ).bind fun k ρ1 => if k = true then a ρ1 else b ρ1
theorem de_if {c : Expr} {fc : EnvD → Rs Bool} {fa fb : EnvD → Rs D} (hc : DT X W c fc) (ha : DE X W a fa) (hb : DE X W b fb) : DE X W (.IfExp c a b pos) (eIf fc fa fb) := by
  obtain ⟨_, h1, s1⟩ := hc.ex
  obtain ⟨_, h2, s2⟩ := ha.ex
  obtain ⟨_, h3, s3⟩ := hb.ex
  refine ⟨_, pe_ifExp h1 h2 h3, fun B F ρ σ H Q S z => ?_⟩
  exact s1 B F ρ σ H _ S (EndG.cont z fun k ρ1 F1 H1 S1 e1 z1 => by
    cases k with
    | true => exact s2 B F1 ρ1 σ H1 Q S1 z1
    | false => exact s3 B F1 ρ1 σ H1 Q S1 z1)
def wAnd (a b : EnvD → Rs Bool) : EnvD → Rs Bool := fun ρ => (a ρ).bind fun k ρ1 => if k = true then b ρ1 else .ok false ρ1
def wOr (a b : EnvD → Rs Bool) : EnvD → Rs Bool := fun ρ => (a ρ).bind fun k ρ1 => if k = true then .ok true ρ1 else b ρ1
def wNot (a : EnvD → Rs Bool) : EnvD → Rs Bool := fun ρ => (a ρ).bind fun k ρ1 => .ok (!k) ρ1
variable {rest : List Expr} {fa fb : EnvD → Rs Bool} {da db : EnvD → Rs D}
theorem dw_and1 (ha : DT X W a fa) : DW X W (.BoolOp .And [a] pos) fa := let ⟨_, h1, s1⟩ := ha.ex; ⟨_, pw_and1 h1, s1⟩
theorem dw_or1 (ha : DT X W a fa) : DW X W (.BoolOp .Or [a] pos) fa := let ⟨_, h1, s1⟩ := ha.ex; ⟨_, pw_or1 h1, s1⟩
theorem dw_and (ha : DT X W a fa) (hb : DW X W (.BoolOp .And (b :: rest) pos) fb) : DW X W (.BoolOp .And (a :: b :: rest) pos) (wAnd fa fb) := by
  obtain ⟨_, h1, s1⟩ := ha.ex
  obtain ⟨_, h2, s2⟩ := hb.ex
  refine ⟨_, pw_and h1 h2, fun B F ρ σ H Q S z => ?_⟩
  exact s1 B F ρ σ H _ S (EndG.cont z fun k ρ1 F1 H1 S1 e1 z1 => by
    cases k with
    | true => exact s2 B F1 ρ1 σ H1 Q S1 z1
    | false => exact z1 F1 H1 S1 (Ex.refl F1))
theorem dw_or (ha : DT X W a fa) (hb : DW X W (.BoolOp .Or (b :: rest) pos) fb) : DW X W (.BoolOp .Or (a :: b :: rest) pos) (wOr fa fb) := by
  obtain ⟨_, h1, s1⟩ := ha.ex
  obtain ⟨_, h2, s2⟩ := hb.ex
  refine ⟨_, pw_or h1 h2, fun B F ρ σ H Q S z => ?_⟩
  exact s1 B F ρ σ H _ S (EndG.cont z fun k ρ1 F1 H1 S1 e1 z1 => by
    cases k with
    | true => exact z1 F1 H1 S1 (Ex.refl F1)
    | false => exact s2 B F1 ρ1 σ H1 Q S1 z1)
theorem dt_w (h : DW X W a fa) : DT X W a fa := let ⟨_, h1, s1⟩ := h.ex; ⟨_, h1.pt, s1⟩
theorem dt_not (ha : DT X W a fa) : DT X W (.UnaryOp .Not a pos) (wNot fa) := by
  obtain ⟨_, h1, s1⟩ := ha.ex
  refine ⟨_, pt_not h1, fun B F ρ σ H Q S z => ?_⟩
  exact s1 B F ρ σ H _ S (EndG.cont z fun k ρ1 F1 H1 S1 e1 z1 => z1 F1 H1 S1 (Ex.refl F1))
def eAnd (a b : EnvD → Rs D) : EnvD → Rs D := fun ρ => (a ρ).bind fun d ρ1 => (optR (truD d) ρ1).bind fun k ρ2 => if k = true then b ρ2 else .ok d ρ2
def eOr (a b : EnvD → Rs D) : EnvD → Rs D := fun ρ => (a ρ).bind fun d ρ1 => (optR (truD d) ρ1).bind fun k ρ2 => if k = true then .ok d ρ2 else b ρ2
theorem de_one {op : BoolOp} (h : DE X W a da) : DE X W (.BoolOp op [a] pos) da := let ⟨_, h1, s1⟩ := h.ex; ⟨_, pe_one h1, s1⟩
theorem de_and (ha : DE X W a da) (hb : DE X W (.BoolOp .And (b :: rest) pos) db) : DE X W (.BoolOp .And (a :: b :: rest) pos) (eAnd da db) := by
  obtain ⟨_, h1, s1⟩ := ha.ex
  obtain ⟨_, h2, s2⟩ := hb.ex
  refine ⟨_, pe_andT h1 h2, fun B F ρ σ H Q S z => ?_⟩
  exact s1 B F ρ σ H _ S (EndG.cont z fun d ρ1 F1 H1 S1 e1 z1 v r => by
    cases hk : truD d with
    | none => rw [hk] at z1; exact z1.elim
    | some k =>
      rw [hk] at z1
      refine ⟨k, tru_of S1.ex (.inl r) hk, ?_⟩
      cases k with
      | true => exact s2 B F1 ρ1 σ H1 Q S1 z1
      | false => exact z1 F1 H1 S1 (Ex.refl F1) v r)
theorem de_or (ha : DE X W a da) (hb : DE X W (.BoolOp .Or (b :: rest) pos) db) : DE X W (.BoolOp .Or (a :: b :: rest) pos) (eOr da db) := by
  obtain ⟨_, h1, s1⟩ := ha.ex
  obtain ⟨_, h2, s2⟩ := hb.ex
  refine ⟨_, pe_orT h1 h2, fun B F ρ σ H Q S z => ?_⟩
  exact s1 B F ρ σ H _ S (EndG.cont z fun d ρ1 F1 H1 S1 e1 z1 v r => by
    cases hk : truD d with
    | none => rw [hk] at z1; exact z1.elim
    | some k =>
      rw [hk] at z1
      refine ⟨k, tru_of S1.ex (.inl r) hk, ?_⟩
      cases k with
      | true => exact z1 F1 H1 S1 (Ex.refl F1) v r
      | false => exact s2 B F1 ρ1 σ H1 Q S1 z1)
def notD (d : D) : Option D := (truD d).map fun k => .bl (!k)
theorem de_not (ha : OE X W a pa) : DE X W (.UnaryOp .Not a pos) (eOp1 notD pa) := by
  obtain ⟨ta, h1, h2⟩ := ha.ex
  refine ⟨_, pe_notT h1, fun B F ρ σ H Q S z => ?_⟩
  exact h2 B F ρ σ H _ S (EndG.cont z fun p ρ1 F1 H1 S1 e1 z1 v hv => by
    obtain ⟨d, hd, z2⟩ := z1.opt
    obtain ⟨dx, h3, h4⟩ := Option.bind_eq_some_iff.mp hd
    unfold notD at h4
    cases hk : truD dx with
    | none => rw [hk] at h4; cases h4
    | some k =>
      rw [hk] at h4
      cases h4
      exact ⟨k, tru_of S1.ex (hv.get S1 h3) hk, z2 F1 H1 S1 (Ex.refl F1) _ (.bl _)⟩)
theorem de_chain {c : Expr} {op op' : CmpOp} {r r' : R2} {g g' : D → D → Option D} {pc : EnvD → Rs PD} (ho : OpR X (compareOp op) r) (ho' : OpR X (compareOp op') r') (hg : Op2D X r g) (hg' : Op2D X r' g') (ha : OE X W a pa) (hb : OE X W b pb) (hc : OE X W c pc)
    (hm : lastMarks [op, op'] [b, c] = false := by with_unfolding_all rfl) : DE X W (.Compare a [op, op'] [b, c] pos) (eChain g g' pa pb pc) ∧ DT X W (.Compare a [op, op'] [b, c] pos) (tB (eChain g g' pa pb pc)) := by
  obtain ⟨ta, h1, s1⟩ := ha.ex
  obtain ⟨tb, h2, s2⟩ := hb.ex
  obtain ⟨tc, h3, s3⟩ := hc.ex
  have snd : DSnd X W (tChain r r' ta tb tc) (eChain g g' pa pb pc) := fun B F ρ σ H Q S z =>
    s1 B F ρ σ H _ S (EndG.cont z fun p ρ1 F1 H1 S1 e1 z1 v hv =>
      s2 B F1 ρ1 σ H1 _ S1 (EndG.cont z1 fun q ρ2 F2 H2 S2 e2 z2 u hu => by
        cases hz : ((p.get ρ2).bind fun x => (q.get ρ2).bind fun y => g x y) with
        | none => rw [hz] at z2; exact z2.elim
        | some d =>
          rw [hz] at z2
          obtain ⟨dx, g1, hd⟩ := Option.bind_eq_some_iff.mp hz
          obtain ⟨dy, g2, g3⟩ := Option.bind_eq_some_iff.mp hd
          refine hg B F2 ρ2 σ H2 v u dx dy d _ S2 ((hv.ext e2).get S2 g1) (hu.get S2 g2) g3 fun w F3 H3 S3 e3 r3 => ?_
          cases d with
          | bl k =>
            cases r3
            refine ⟨k, rfl, ?_⟩
            cases k with
            | false => exact z2 F3 H3 S3 e3 _ (.bl false)
            | true =>
              exact s3 B F3 ρ2 σ H3 _ S3 (EndG.cont (EndG.ext e3 z2) fun t ρ4 F4 H4 S4 e4 z4 y hy => by
                obtain ⟨d', hd', z5⟩ := z4.opt
                obtain ⟨dy', g4, hd'⟩ := Option.bind_eq_some_iff.mp hd'
                obtain ⟨dw, g5, g6⟩ := Option.bind_eq_some_iff.mp hd'
                exact hg' B F4 ρ4 σ H4 u y dy' dw d' Q S4 ((hu.ext (e3.trans e4)).get S4 g4) (hy.get S4 g5) g6 fun w F' H' S' e' r' => z5 F' H' S' e' w r')
          | _ => exact z2.elim))
  exact ⟨⟨_, pe_chain ho ho' h1 h2 h3 hm, snd⟩, ⟨_, pt_chain ho ho' h1 h2 h3 hm, tB_snd snd⟩⟩
end

/-! ### several -/
def aNil : EnvD → Rs (List D) := fun ρ => .ok [] ρ
def aCons (f : EnvD → Rs D) (g : EnvD → Rs (List D)) : EnvD → Rs (List D) := fun ρ => (f ρ).bind fun d ρ1 => (g ρ1).bind fun ds ρ2 => .ok (d :: ds) ρ2
def oNil : EnvD → Rs (List PD) := fun ρ => .ok [] ρ
def oCons (f : EnvD → Rs PD) (g : EnvD → Rs (List PD)) : EnvD → Rs (List PD) := fun ρ => (f ρ).bind fun d ρ1 => (g ρ1).bind fun ds ρ2 => .ok (d :: ds) ρ2
section
variable {X : Cx} {W : WX} {e : Expr} {es : List Expr} {pos : Pos}
theorem PReps.ext {K : PySem.W.Frag} {mg : Str → Option Value} {F F' : Hp} {σ : L2.St} (x : Ex F F') : ∀ {vs : List V} {ps : List PD}, PReps K mg F σ vs ps → PReps K mg F' σ vs ps
  | [], [], _ => trivial
  | _ :: _, _ :: _, ⟨h, r⟩ => ⟨h.ext x, PReps.ext x r⟩
theorem da_nil : DA X W [] aNil := ⟨_, pa_nil, fun B F ρ σ H Q S z => z F H S (Ex.refl F) [] .nil⟩
theorem oa_nil : OA X W [] oNil := ⟨_, pa_nil, fun B F ρ σ H Q S z => z F H S (Ex.refl F) [] trivial⟩
theorem da_cons {f : EnvD → Rs D} {g : EnvD → Rs (List D)} (h1 : DE X W e f) (h2 : DA X W es g) (hs : starEach (e :: es) X.env = (false, eval e X.env) :: starEach es X.env := by rfl) : DA X W (e :: es) (aCons f g) := by
  obtain ⟨_, p1, s1⟩ := h1.ex
  obtain ⟨_, p2, s2⟩ := h2.ex
  refine ⟨_, pa_cons p1 p2 hs, fun B F ρ σ H Q S z => ?_⟩
  exact s1 B F ρ σ H _ S (EndG.cont z fun d ρ1 F1 H1 S1 e1 z1 v r =>
    s2 B F1 ρ1 σ H1 _ S1 (EndG.cont z1 fun ds ρ2 F2 H2 S2 e2 z2 vs rs => z2 F2 H2 S2 (Ex.refl F2) (v :: vs) (.cons (r.ext e2) rs)))
theorem oa_cons {f : EnvD → Rs PD} {g : EnvD → Rs (List PD)} (h1 : OE X W e f) (h2 : OA X W es g) (hs : starEach (e :: es) X.env = (false, eval e X.env) :: starEach es X.env := by rfl) : OA X W (e :: es) (oCons f g) := by
  obtain ⟨_, p1, s1⟩ := h1.ex
  obtain ⟨_, p2, s2⟩ := h2.ex
  refine ⟨_, pa_cons p1 p2 hs, fun B F ρ σ H Q S z => ?_⟩
  exact s1 B F ρ σ H _ S (EndG.cont z fun d ρ1 F1 H1 S1 e1 z1 v r =>
    s2 B F1 ρ1 σ H1 _ S1 (EndG.cont z1 fun ds ρ2 F2 H2 S2 e2 z2 vs rs => z2 F2 H2 S2 (Ex.refl F2) (v :: vs) ⟨r.ext e2, rs⟩))
def nTup (f : EnvD → Rs (List D)) : EnvD → Rs CO := fun ρ => (f ρ).bind fun ds ρ1 => if ds.length ≤ 10000 then .ok (.tup ds) ρ1 else .bad
def nLst (f : EnvD → Rs (List D)) : EnvD → Rs CO := fun ρ => (f ρ).bind fun ds ρ1 => if ds.length ≤ 10000 then .ok (.lst ds) ρ1 else .bad
theorem small4 {n : Nat} (h : n ≤ 10000) : n ≤ sizeLine := Nat.le_trans h (by decide)
theorem ne_tup {f : EnvD → Rs (List D)} {x1} (h : DA X W es f) : NE X W (.Tuple es x1 pos) (nTup f) := by
  obtain ⟨_, p1, s1⟩ := h.ex
  refine ⟨_, pe_tup p1, fun B F ρ σ H Q S z => ?_⟩
  exact s1 B F ρ σ H _ S (EndG.cont z fun ds ρ1 F1 H1 S1 e1 z1 vs r => by
    split at z1
    · rename_i hl
      refine ⟨small4 (by rw [r.length]; exact hl), fun p hp => ?_⟩
      obtain ⟨S2, N2⟩ := S1.newAt hp (COr.tup r)
      exact z1 F1 _ S2 (Ex.refl F1) p N2
    · exact z1.elim)
theorem ne_lst {f : EnvD → Rs (List D)} (h : DA X W es f) : NE X W (.List es pos) (nLst f) := by
  obtain ⟨_, p1, s1⟩ := h.ex
  refine ⟨_, pe_lst p1, fun B F ρ σ H Q S z => ?_⟩
  exact s1 B F ρ σ H _ S (EndG.cont z fun ds ρ1 F1 H1 S1 e1 z1 vs r => by
    split at z1
    · rename_i hl
      refine ⟨small4 (by rw [r.length]; exact hl), fun p hp => ?_⟩
      obtain ⟨S2, N2⟩ := S1.newAt hp (COr.lst r)
      exact z1 F1 _ S2 (Ex.refl F1) p N2
    · exact z1.elim)
end
end DL

/-! The data layer, 4: operators, comparisons, subscripts, slices, built-ins by values. -/
namespace DL
open PySem PySem.Spec PyProof.Rows L2

/-! ### data compared -/
mutual
def toPy : D → PyData
  | .non => .none
  | .bl b => .bool b
  | .int i => .int i
  | .str x => .str x
  | .tup l => .tuple (toPys l)
  | .lst l => .list (toPys l)
  | .seq l => .list (toPys l)
  | .ins _ _ => .none
  | .dk _ => .none
  | .dt _ => .none
  | .val _ => .none
def toPys : List D → List PyData
  | [] => []
  | d :: ds => toPy d :: toPys ds
end
mutual
/-- plain data, nested n deep at most -/
def okD : Nat → D → Bool
  | _, .non => true
  | _, .bl _ => true
  | _, .int _ => true
  | _, .str x => PyData.strOk x
  | 0, .tup _ => false
  | 0, .lst _ => false
  | 0, .seq _ => false
  | n + 1, .tup l => okDs n l
  | n + 1, .lst l => okDs n l
  | n + 1, .seq l => okDs n l
  | _, .ins _ _ => false
  | _, .dk _ => false
  | _, .dt _ => false
  | _, .val _ => false
def okDs : Nat → List D → Bool
  | _, [] => true
  | n, d :: ds => okD n d && okDs n ds
end
mutual
theorem okD_lay : ∀ (n : Nat) (d : D), okD n d = true → (toPy d).canLay0 = true ∧ (toPy d).depth ≤ n
  | n, .non, _ => ⟨by simp [toPy, PyData.canLay0], by simp [toPy, PyData.depth]⟩
  | n, .bl _, _ => ⟨by simp [toPy, PyData.canLay0], by simp [toPy, PyData.depth]⟩
  | n, .int _, _ => ⟨by simp [toPy, PyData.canLay0], by simp [toPy, PyData.depth]⟩
  | n, .str x, h => ⟨by simpa [toPy, PyData.canLay0, okD] using h, by simp [toPy, PyData.depth]⟩
  | 0, .tup l, h => by simp [okD] at h
  | 0, .lst l, h => by simp [okD] at h
  | 0, .seq l, h => by simp [okD] at h
  | n + 1, .tup l, h => by
    obtain ⟨h1, h2⟩ := okDs_lay n l (by simpa [okD] using h)
    exact ⟨by simpa [toPy, PyData.canLay0] using h1, by simp only [toPy, PyData.depth]; omega⟩
  | n + 1, .lst l, h => by
    obtain ⟨h1, h2⟩ := okDs_lay n l (by simpa [okD] using h)
    exact ⟨by simpa [toPy, PyData.canLay0] using h1, by simp only [toPy, PyData.depth]; omega⟩
  | n + 1, .seq l, h => by
    obtain ⟨h1, h2⟩ := okDs_lay n l (by simpa [okD] using h)
    exact ⟨by simpa [toPy, PyData.canLay0] using h1, by simp only [toPy, PyData.depth]; omega⟩
  | 0, .ins _ _, h => by simp [okD] at h
  | _ + 1, .ins _ _, h => by simp [okD] at h
  | 0, .dk _, h => by simp [okD] at h
  | _ + 1, .dk _, h => by simp [okD] at h
  | 0, .dt _, h => by simp [okD] at h
  | _ + 1, .dt _, h => by simp [okD] at h
  | 0, .val _, h => by simp [okD] at h
  | _ + 1, .val _, h => by simp [okD] at h
theorem okDs_lay : ∀ (n : Nat) (l : List D), okDs n l = true → PyData.canLayAll0 (toPys l) = true ∧ PyData.depthAll (toPys l) ≤ n
  | n, [], _ => ⟨by simp [toPys, PyData.canLayAll0], by simp [toPys, PyData.depthAll]⟩
  | n, d :: ds, h => by
    have h' : okD n d = true ∧ okDs n ds = true := by simpa [okDs] using h
    obtain ⟨h1, h2⟩ := okD_lay n d h'.1
    obtain ⟨h3, h4⟩ := okDs_lay n ds h'.2
    exact ⟨by simp [toPys, PyData.canLayAll0, h1, h3], by simp only [toPys, PyData.depthAll]; omega⟩
end
section
variable {K : PySem.W.Frag} {mg : Str → Option Value} {F H : Hp}
mutual
theorem Rep.dp (e : ExD F H) : ∀ {v : V} {d : D} {n : Nat}, Rep K mg F v d → okD n d = true → Dp K H v (toPy d)
  | _, _, n, .non, _ => by simpa [toPy] using Dp.non
  | _, _, n, .bl b, _ => by simpa [toPy] using Dp.bl b
  | _, _, n, .int i, _ => by simpa [toPy] using Dp.int i
  | _, _, n, .str x, _ => by simpa [toPy] using Dp.str x
  | _, _, n + 1, .tup h r, k => by
    have k' := Reps.dp e r (n := n) (by simpa [okD] using k)
    simpa [toPy] using Dp.tup (e.sqT h) k'
  | _, _, n + 1, .lst h r, k => by
    have k' := Reps.dp e r (n := n) (by simpa [okD] using k)
    simpa [toPy] using Dp.lst (SqL.of ((e _ _ h).plain rfl)) k'
  | _, _, n + 1, .seq h r, k => by
    have k' := Reps.dp e r (n := n) (by simpa [okD] using k)
    simpa [toPy] using Dp.lst (e.sqL h) k'
  | _, _, 0, .tup h r, k => by simp [okD] at k
  | _, _, 0, .lst h r, k => by simp [okD] at k
  | _, _, 0, .seq h r, k => by simp [okD] at k
  | _, _, 0, .ins _ _ _, k => by simp [okD] at k
  | _, _, _ + 1, .ins _ _ _, k => by simp [okD] at k
  | _, _, 0, .dk _ _, k => by simp [okD] at k
  | _, _, _ + 1, .dk _ _, k => by simp [okD] at k
  | _, _, 0, .dt _ _, k => by simp [okD] at k
  | _, _, _ + 1, .dt _ _, k => by simp [okD] at k
  | _, _, 0, .val _, k => by simp [okD] at k
  | _, _, _ + 1, .val _, k => by simp [okD] at k
theorem Reps.dp (e : ExD F H) : ∀ {vs : List V} {ds : List D} {n : Nat}, Reps K mg F vs ds → okDs n ds = true → DpAll K H vs (toPys ds)
  | _, _, _, .nil, _ => by simpa [toPys] using DpAll.nil
  | _, d :: ds, n, .cons h r, k => by
    have k' : okD n d = true ∧ okDs n ds = true := by simpa [okDs] using k
    have h1 := Rep.dp e h k'.1
    have h2 := Reps.dp e r k'.2
    simpa [toPys] using DpAll.cons h1 h2
end
theorem RepV.dp {v : V} {d : D} {n : Nat} (e : ExD F H) (h : RepV K mg F H v d) (k : okD n d = true) : Dp K H v (toPy d) := by
  rcases h with h | ⟨a, o, co, rfl, h1, h2, rfl⟩
  · exact h.dp e k
  · cases h2 with
    | lst r =>
      cases n with
      | zero => simp [CO.d, okD] at k
      | succ n =>
        have k' := r.dp e (n := n) (by simpa [CO.d, okD] using k)
        simpa [CO.d, toPy] using Dp.lst (SqL.of h1) k'
    | tup r =>
      cases n with
      | zero => simp [CO.d, okD] at k
      | succ n =>
        have k' := r.dp e (n := n) (by simpa [CO.d, okD] using k)
        simpa [CO.d, toPy] using Dp.tup (SqT.of h1) k'
    | dk r => cases n <;> simp [CO.d, okD] at k
    | dt r => cases n <;> simp [CO.d, okD] at k
    | ins m r => cases n <;> simp [CO.d, okD] at k
end
theorem shaped_of {d : D} (h : okD 60 d = true) : SeqAt.shaped (toPy d) = true := by
  obtain ⟨h1, h2⟩ := okD_lay 60 d h
  unfold SeqAt.shaped
  rw [h1, Bool.true_and]
  exact decide_eq_true (by omega)
def eqvD (x y : D) : Bool := PyData.eqv (toPy x) (toPy y)
def eqD (x y : D) : Option D := if okD 60 x = true ∧ okD 60 y = true then some (.bl (eqvD x y)) else none
def neD (x y : D) : Option D := if okD 60 x = true ∧ okD 60 y = true then some (.bl (!eqvD x y)) else none

/-! ### arithmetic -/
def small64I (i : Int) : Bool := match i with
  | .ofNat n => Nat.ble n 18446744073709551615
  | .negSucc n => Nat.ble n 18446744073709551614
theorem small64_of {i : Int} (h : small64I i = true) : -(2 ^ 64) < i ∧ i < 2 ^ 64 := by
  have e : (2 : Int) ^ 64 = 18446744073709551616 := by decide
  rw [e]
  cases i with
  | ofNat n =>
    have := Nat.le_of_ble_eq_true (show Nat.ble n 18446744073709551615 = true from h)
    constructor
    · show (-18446744073709551616 : Int) < (n : Int)
      omega
    · show (n : Int) < 18446744073709551616
      omega
  | negSucc n =>
    have := Nat.le_of_ble_eq_true (show Nat.ble n 18446744073709551614 = true from h)
    rw [Int.negSucc_eq]
    omega
def addD : D → D → Option D
  | .int i, .int j => some (.int (i + j))
  | .str i, .str j => if i.length + j.length ≤ sizeLine then some (.str (i ++ j)) else none
  | _, _ => none
def catD : D → D → Option CO
  | .lst l, .lst m => if l.length + m.length ≤ sizeLine then some (.lst (l ++ m)) else none
  | _, _ => none
def subD : D → D → Option D
  | .int i, .int j => some (.int (i - j))
  | _, _ => none
def mulD : D → D → Option D
  | .int i, .int j => if small64I i || small64I j then some (.int (i * j)) else none
  | _, _ => none
def repD : D → D → Option CO
  | .lst l, .int k => if decide (-(2 ^ 63) ≤ k) && decide (k < 2 ^ 63) && decide (l.length * k.toNat ≤ sizeLine) then some (.lst (List.replicate k.toNat l).flatten) else none
  | _, _ => none
def fdivD : D → D → Option D
  | .int i, .int j => if decide (0 < j) && decide (j < 1073741824) then some (.int (i / j)) else none
  | _, _ => none
def modD : D → D → Option D
  | .int i, .int j => if 0 < j then some (.int (i % j)) else none
  | _, _ => none
def powD : D → D → Option D
  | .int i, .int j => if decide (0 ≤ j) && decide (j ≤ 1000000) && decide (i.natAbs < 2 ^ 64) then some (.int (i ^ j.toNat)) else none
  | _, _ => none
def negD : D → Option D
  | .int i => some (.int (-i))
  | _ => none
def ltD : D → D → Option D
  | .int i, .int j => some (.bl (decide (i < j)))
  | _, _ => none
def leD : D → D → Option D
  | .int i, .int j => some (.bl (decide (i ≤ j)))
  | _, _ => none
def gtD : D → D → Option D
  | .int i, .int j => some (.bl (decide (j < i)))
  | _, _ => none
def geD : D → D → Option D
  | .int i, .int j => some (.bl (decide (j ≤ i)))
  | _, _ => none
def isNon : D → Bool
  | .non => true
  | _ => false
def okIs : D → Bool
  | .val _ => false
  | _ => true
/-- x is None -/
def isD (x y : D) : Option D := match y with
  | .non => if okIs x = true then some (.bl (isNon x)) else none
  | _ => none
def isntD (x y : D) : Option D := match y with
  | .non => if okIs x = true then some (.bl (!isNon x)) else none
  | _ => none
section
variable {X : Cx}
def rAddA : R2 := fun x y H Q => (rI0 (fun i j => .int (i + j)) x y H Q) ∨ (∃ i j, x = .str i ∧ y = .str j ∧ i.length + j.length ≤ sizeLine ∧ Q (.str (i ++ j)) H)
theorem op_addA : OpR X (binaryOp .Add) rAddA := op_add.or op_add_str
theorem o2_add : Op2D X rAddA addD := by
  intro B F ρ σ H x y dx dy d Q S hx hy hg k
  cases dx <;> cases dy <;> first | (simp [addD] at hg; done) | skip
  · cases hg
    exact .inl ⟨_, _, hx.int, hy.int, k _ F H S (Ex.refl F) (.int _)⟩
  · rename_i i j
    have hg : (if i.length + j.length ≤ sizeLine then some (D.str (i ++ j)) else none) = some d := hg
    split at hg
    · cases hg
      exact .inr ⟨_, _, hx.str, hy.str, by assumption, k _ F H S (Ex.refl F) (.str _)⟩
    · cases hg
theorem o2_cat : Op2N X rCat catD := by
  intro B F ρ σ H x y dx dy d Q S hx hy hg k
  cases dx <;> cases dy <;> first | (simp [catD] at hg; done) | skip
  rename_i l m
  have hg : (if l.length + m.length ≤ sizeLine then some (CO.lst (l ++ m)) else none) = some d := hg
  split at hg
  · rename_i hl
    cases hg
    obtain ⟨a, vs, rfl, h1, h2⟩ := hx.lst S.ex
    obtain ⟨b, ws, rfl, h3, h4⟩ := hy.lst S.ex
    refine ⟨a, b, vs, ws, rfl, rfl, h1, h3, by rw [h2.length, h4.length]; exact hl, fun p hp => ?_⟩
    obtain ⟨S2, N2⟩ := S.newAt hp (COr.lst (h2.append h4))
    exact k p F _ S2 (Ex.refl F) N2
  · cases hg
theorem reps_rep {K : PySem.W.Frag} {mg : Str → Option Value} {F : Hp} {vs : List V} {ds : List D} (r : Reps K mg F vs ds) : ∀ n : Nat, Reps K mg F (List.replicate n vs).flatten (List.replicate n ds).flatten
  | 0 => .nil
  | n + 1 => by
    rw [List.replicate_succ, List.replicate_succ, List.flatten_cons, List.flatten_cons]
    exact r.append (reps_rep r n)
theorem o2_rep : Op2N X rRep repD := by
  intro B F ρ σ H x y dx dy d Q S hx hy hg k
  cases dx <;> cases dy <;> first | (simp [repD] at hg; done) | skip
  rename_i l n
  have hg : (if (decide (-(2 ^ 63) ≤ n) && decide (n < 2 ^ 63) && decide (l.length * n.toNat ≤ sizeLine)) = true then some (CO.lst (List.replicate n.toNat l).flatten) else none) = some d := hg
  split at hg
  · rename_i hl
    simp only [Bool.and_eq_true, decide_eq_true_eq] at hl
    cases hg
    obtain ⟨a, vs, rfl, h1, h2⟩ := hx.lst S.ex
    cases hy.int
    refine ⟨a, n, vs, rfl, rfl, h1, hl.1.1, hl.1.2, by rw [h2.length]; exact hl.2, fun p hp => ?_⟩
    obtain ⟨S2, N2⟩ := S.newAt hp (COr.lst (reps_rep h2 n.toNat))
    exact k p F _ S2 (Ex.refl F) N2
  · cases hg
theorem o2_sub : Op2D X (rI0 fun i j => .int (i - j)) subD := by
  intro B F ρ σ H x y dx dy d Q S hx hy hg k
  cases dx <;> cases dy <;> first | (simp [subD] at hg; done) | skip
  cases hg
  exact ⟨_, _, hx.int, hy.int, k _ F H S (Ex.refl F) (.int _)⟩
theorem o2_mul : Op2D X (rI CMul fun i j => .int (i * j)) mulD := by
  intro B F ρ σ H x y dx dy d Q S hx hy hg k
  cases dx <;> cases dy <;> first | (simp [mulD] at hg; done) | skip
  rename_i i j
  have hg : (if (small64I i || small64I j) = true then some (D.int (i * j)) else none) = some d := hg
  split at hg
  · rename_i hl
    cases hg
    refine ⟨_, _, hx.int, hy.int, ?_, k _ F H S (Ex.refl F) (.int _)⟩
    simp only [Bool.or_eq_true] at hl
    have hl := hl.imp small64_of small64_of
    exact hl
  · cases hg
theorem o2_fdiv : Op2D X (rI CDiv fun i j => .int (i / j)) fdivD := by
  intro B F ρ σ H x y dx dy d Q S hx hy hg k
  cases dx <;> cases dy <;> first | (simp [fdivD] at hg; done) | skip
  rename_i i j
  have hg : (if (decide (0 < j) && decide (j < 1073741824)) = true then some (D.int (i / j)) else none) = some d := hg
  split at hg
  · rename_i hl
    cases hg
    simp only [Bool.and_eq_true, decide_eq_true_eq] at hl
    exact ⟨_, _, hx.int, hy.int, hl, k _ F H S (Ex.refl F) (.int _)⟩
  · cases hg
theorem o2_mod : Op2D X (rI (fun _ j => 0 < j) fun i j => .int (i % j)) modD := by
  intro B F ρ σ H x y dx dy d Q S hx hy hg k
  cases dx <;> cases dy <;> first | (simp [modD] at hg; done) | skip
  rename_i i j
  have hg : (if 0 < j then some (D.int (i % j)) else none) = some d := hg
  split at hg
  · cases hg
    exact ⟨_, _, hx.int, hy.int, by assumption, k _ F H S (Ex.refl F) (.int _)⟩
  · cases hg
theorem o2_pow : Op2D X (rI CPow fun i j => .int (i ^ j.toNat)) powD := by
  intro B F ρ σ H x y dx dy d Q S hx hy hg k
  cases dx <;> cases dy <;> first | (simp [powD] at hg; done) | skip
  rename_i i j
  have hg : (if (decide (0 ≤ j) && decide (j ≤ 1000000) && decide (i.natAbs < 2 ^ 64)) = true then some (D.int (i ^ j.toNat)) else none) = some d := hg
  split at hg
  · rename_i hl
    cases hg
    simp only [Bool.and_eq_true, decide_eq_true_eq] at hl
    exact ⟨_, _, hx.int, hy.int, ⟨hl.1.1, hl.1.2, hl.2⟩, k _ F H S (Ex.refl F) (.int _)⟩
  · cases hg
theorem o1_neg : Op1D X (rU fun i => .int (-i)) negD := by
  intro B F ρ σ H x dx d Q S hx hg k
  cases dx <;> first | (simp [negD] at hg; done) | skip
  cases hg
  exact ⟨_, hx.int, k _ F H S (Ex.refl F) (.int _)⟩
theorem o2_lt : Op2D X (rI0 fun i j => .bl (decide (i < j))) ltD := by
  intro B F ρ σ H x y dx dy d Q S hx hy hg k
  cases dx <;> cases dy <;> first | (simp [ltD] at hg; done) | skip
  cases hg
  exact ⟨_, _, hx.int, hy.int, k _ F H S (Ex.refl F) (.bl _)⟩
theorem o2_le : Op2D X (rI0 fun i j => .bl (decide (i ≤ j))) leD := by
  intro B F ρ σ H x y dx dy d Q S hx hy hg k
  cases dx <;> cases dy <;> first | (simp [leD] at hg; done) | skip
  cases hg
  exact ⟨_, _, hx.int, hy.int, k _ F H S (Ex.refl F) (.bl _)⟩
theorem o2_gt : Op2D X (rI0 fun i j => .bl (decide (j < i))) gtD := by
  intro B F ρ σ H x y dx dy d Q S hx hy hg k
  cases dx <;> cases dy <;> first | (simp [gtD] at hg; done) | skip
  cases hg
  exact ⟨_, _, hx.int, hy.int, k _ F H S (Ex.refl F) (.bl _)⟩
theorem o2_ge : Op2D X (rI0 fun i j => .bl (decide (j ≤ i))) geD := by
  intro B F ρ σ H x y dx dy d Q S hx hy hg k
  cases dx <;> cases dy <;> first | (simp [geD] at hg; done) | skip
  cases hg
  exact ⟨_, _, hx.int, hy.int, k _ F H S (Ex.refl F) (.bl _)⟩
theorem isNon_of {K : PySem.W.Frag} {mg : Str → Option Value} {F H : Hp} {v : V} {d : D} (h : RepV K mg F H v d) (k : okIs d = true) : decide (v = .non) = isNon d := by
  rcases h with h | ⟨a, o, co, rfl, h1, h2, rfl⟩
  · cases h <;> first | rfl | (simp [okIs] at k)
  · cases co <;> rfl
theorem o2_is : Op2D X (fun x y H Q => y = .non ∧ Q (.bl (decide (x = .non))) H) isD := by
  intro B F ρ σ H x y dx dy d Q S hx hy hg k
  cases dy <;> first | (simp [isD] at hg; done) | skip
  have hg : (if okIs dx = true then some (D.bl (isNon dx)) else none) = some d := hg
  split at hg
  · rename_i hl
    cases hg
    exact ⟨hy.non, by rw [isNon_of hx hl]; exact k _ F H S (Ex.refl F) (.bl _)⟩
  · cases hg
theorem o2_isnt : Op2D X (fun x y H Q => y = .non ∧ Q (.bl (!decide (x = .non))) H) isntD := by
  intro B F ρ σ H x y dx dy d Q S hx hy hg k
  cases dy <;> first | (simp [isntD] at hg; done) | skip
  have hg : (if okIs dx = true then some (D.bl (!isNon dx)) else none) = some d := hg
  split at hg
  · rename_i hl
    cases hg
    exact ⟨hy.non, by rw [isNon_of hx hl]; exact k _ F H S (Ex.refl F) (.bl _)⟩
  · cases hg
theorem o2_eq : Op2D X (rEqD X.K) eqD := by
  intro B F ρ σ H x y dx dy d Q S hx hy hg k
  unfold eqD at hg
  split at hg
  · rename_i hl
    cases hg
    exact ⟨_, _, hx.dp S.ex hl.1, hy.dp S.ex hl.2, shaped_of hl.1, shaped_of hl.2, k _ F H S (Ex.refl F) (.bl _)⟩
  · cases hg
theorem o2_ne : Op2D X (rNeD X.K) neD := by
  intro B F ρ σ H x y dx dy d Q S hx hy hg k
  unfold neD at hg
  split at hg
  · rename_i hl
    cases hg
    exact ⟨_, _, hx.dp S.ex hl.1, hy.dp S.ex hl.2, shaped_of hl.1, shaped_of hl.2, k _ F H S (Ex.refl F) (.bl _)⟩
  · cases hg
end

/-! ### in: flat items -/
def flatD : D → Option V
  | .non => some .non
  | .bl b => some (.bl b)
  | .int i => some (.int i)
  | .str x => some (.str x)
  | _ => none
def flatsD : List D → Option (List V)
  | [] => some []
  | d :: ds => (flatD d).bind fun v => (flatsD ds).map fun vs => v :: vs
def itemsD : D → Option (List D)
  | .lst l => some l
  | .seq l => some l
  | .tup l => some l
  | _ => none
def inD (x y : D) : Option Bool := (flatD x).bind fun v => (itemsD y).bind fun l => (flatsD l).map fun vs => inV v vs
def isInD (x y : D) : Option D := (inD x y).map .bl
def notInD (x y : D) : Option D := (inD x y).map fun b => .bl (!b)
section
variable {X : Cx} {K : PySem.W.Frag} {mg : Str → Option Value} {F H : Hp}
theorem flat_of {v w : V} {d : D} (h : RepV K mg F H v d) (k : flatD d = some w) : v = w ∧ flatV w = true := by
  cases d <;> first | (simp [flatD] at k; done) | skip
  · cases k; exact ⟨h.non, rfl⟩
  · cases k; exact ⟨h.bl, rfl⟩
  · cases k; exact ⟨h.int, rfl⟩
  · cases k; exact ⟨h.str, rfl⟩
theorem flats_of : ∀ {vs ws : List V} {ds : List D}, Reps K mg F vs ds → flatsD ds = some ws → vs = ws ∧ ws.all flatV = true
  | _, ws, [], .nil, k => by cases k; exact ⟨rfl, rfl⟩
  | _, ws, d :: ds, .cons h r, k => by
    obtain ⟨v, h1, k⟩ := Option.bind_eq_some_iff.mp k
    obtain ⟨vs', h2, k⟩ := Option.map_eq_some_iff.mp k
    cases k
    obtain ⟨e1, f1⟩ := flat_of (H := F) (.inl h) h1
    obtain ⟨e2, f2⟩ := flats_of r h2
    exact ⟨by rw [e1, e2], by simp [f1, f2]⟩
theorem items_of {v : V} {d : D} {l : List D} (e : ExD F H) (h : RepV K mg F H v d) (k : itemsD d = some l) : ∃ p vs, v = .ref p ∧ (SqL K H p vs ∨ SqT K H p vs) ∧ Reps K mg F vs l := by
  cases d <;> first | (simp [itemsD] at k; done) | skip
  · cases k; obtain ⟨a, vs, rfl, h1, h2⟩ := h.tup e; exact ⟨a, vs, rfl, .inr h1, h2⟩
  · cases k; obtain ⟨a, vs, rfl, h1, h2⟩ := h.lst e; exact ⟨a, vs, rfl, .inl (SqL.of h1), h2⟩
  · cases k; obtain ⟨a, vs, rfl, h1, h2⟩ := h.seq e; exact ⟨a, vs, rfl, .inl h1, h2⟩
theorem o2_in : Op2D X (rIn X.K false) isInD := by
  intro B F ρ σ H x y dx dy d Q S hx hy hg k
  obtain ⟨b, hg, e⟩ := Option.map_eq_some_iff.mp hg
  obtain ⟨v, h1, hg⟩ := Option.bind_eq_some_iff.mp hg
  obtain ⟨l, h2, hg⟩ := Option.bind_eq_some_iff.mp hg
  obtain ⟨vs, h3, hb⟩ := Option.map_eq_some_iff.mp hg
  subst e hb
  obtain ⟨rfl, f1⟩ := flat_of hx h1
  obtain ⟨p, ws, rfl, h4, h5⟩ := items_of S.ex hy h2
  obtain ⟨rfl, f2⟩ := flats_of h5 h3
  exact ⟨p, ws, rfl, h4, f1, f2, k _ F H S (Ex.refl F) (.bl _)⟩
theorem o2_notIn : Op2D X (rIn X.K true) notInD := by
  intro B F ρ σ H x y dx dy d Q S hx hy hg k
  obtain ⟨b, hg, e⟩ := Option.map_eq_some_iff.mp hg
  obtain ⟨v, h1, hg⟩ := Option.bind_eq_some_iff.mp hg
  obtain ⟨l, h2, hg⟩ := Option.bind_eq_some_iff.mp hg
  obtain ⟨vs, h3, hb⟩ := Option.map_eq_some_iff.mp hg
  subst e hb
  obtain ⟨rfl, f1⟩ := flat_of hx h1
  obtain ⟨p, ws, rfl, h4, h5⟩ := items_of S.ex hy h2
  obtain ⟨rfl, f2⟩ := flats_of h5 h3
  exact ⟨p, ws, rfl, h4, f1, f2, k _ F H S (Ex.refl F) (.bl _)⟩
end

/-! ### subscripts -/
def ixD : D → D → Option D
  | .lst l, .int i => atI l i
  | .seq l, .int i => atI l i
  | .tup l, .int i => atI l i
  | .str z, .int i => if z.length ≤ sizeLine then (atI z.cps.toList i).map fun c => .str ⟨#[c]⟩ else none
  | _, _ => none
theorem Reps.atI {K : PySem.W.Frag} {mg : Str → Option Value} {F : Hp} {vs : List V} {ds : List D} {i : Int} {d : D} (r : Reps K mg F vs ds) (h : L2.atI ds i = some d) : ∃ v, L2.atI vs i = some v ∧ Rep K mg F v d := by
  unfold L2.atI at h ⊢
  rw [r.length]
  obtain ⟨j, h1, h2⟩ := Option.bind_eq_some_iff.mp h
  obtain ⟨v, h3, h4⟩ := r.get h2
  exact ⟨v, by rw [h1]; exact h3, h4⟩
section
variable {X : Cx} {W : WX} {a b : Expr} {pos : Pos} {pa pb pc : EnvD → Rs PD}
theorem o2_ix : Op2D X (rIx X.K) ixD := by
  intro B F ρ σ H x y dx dy d Q S hx hy hg k
  cases dx <;> cases dy <;> first | (simp [ixD] at hg; done) | skip
  · rename_i z i
    have hg : (if z.length ≤ sizeLine then (L2.atI z.cps.toList i).map fun c => D.str ⟨#[c]⟩ else none) = some d := hg
    split at hg
    · rename_i hl
      obtain ⟨c, h1, h2⟩ := Option.map_eq_some_iff.mp hg
      subst h2
      exact .inr (.inr ⟨z, i, c, hx.str, hy.int, hl, h1, k _ F H S (Ex.refl F) (.str _)⟩)
    · cases hg
  · obtain ⟨p, vs, rfl, h1, h2⟩ := hx.tup S.ex
    obtain ⟨v, h3, h4⟩ := h2.atI hg
    exact .inr (.inl ⟨p, vs, _, v, rfl, hy.int, h1, h3, k v F H S (Ex.refl F) h4⟩)
  · obtain ⟨p, vs, rfl, h1, h2⟩ := hx.lst S.ex
    obtain ⟨v, h3, h4⟩ := h2.atI hg
    exact .inl ⟨p, vs, _, v, rfl, hy.int, SqL.of h1, h3, k v F H S (Ex.refl F) h4⟩
  · obtain ⟨p, vs, rfl, h1, h2⟩ := hx.seq S.ex
    obtain ⟨v, h3, h4⟩ := h2.atI hg
    exact .inl ⟨p, vs, _, v, rfl, hy.int, h1, h3, k v F H S (Ex.refl F) h4⟩
theorem de_ix {r : R2} {g : D → D → Option D} (hr : IxR X r) (hg : Op2D X r g) (ha : OE X W a pa) (hb : OE X W b pb) (hs : PlainIx b := by first | exact fun _ _ => rfl | (intro _ _; rfl)) : DE X W (.Subscript a b pos) (eOp2 g pa pb) :=
  let ⟨_, h1, h2⟩ := ha.ex; let ⟨_, h3, h4⟩ := hb.ex; ⟨_, pe_ix hr h1 h3 hs, op2_snd h2 h4 hg⟩

/-! ### slices -/
def cutD (l : List D) (lo hi : Option Int) : List D := (l.drop (HT.sIx l.length 0 lo)).take (HT.sIx l.length l.length hi - HT.sIx l.length 0 lo)
theorem Reps.cut {K : PySem.W.Frag} {mg : Str → Option Value} {F : Hp} {vs : List V} {ds : List D} (r : Reps K mg F vs ds) (lo hi : Option Int) : Reps K mg F (cutV vs lo hi) (cutD ds lo hi) := by
  unfold cutV cutD
  rw [r.length]
  exact (r.drop _).take _
/-- a part of a slice: left out, or an int -/
def oPart (p : EnvD → Rs PD) : EnvD → Rs (Option Int) := fun ρ => (p ρ).bind fun q ρ1 => match q.get ρ1 with
  | some (.int i) => .ok (some i) ρ1
  | _ => .bad
def oNone : EnvD → Rs (Option Int) := fun ρ => .ok none ρ
def PtSnd (X : Cx) (W : WX) (to : TO) (f : EnvD → Rs (Option Int)) : Prop := ∀ B F ρ σ H Q, StR X.K X.mg B F ρ σ H → EndG X.K X.mg B F σ W (fun o _ _ H' => Q o H') (f ρ) → to σ H Q
structure PtE (X : Cx) (W : WX) (e : Option Expr) (f : EnvD → Rs (Option Int)) : Prop where mk :: ex : ∃ to, L2.PO X e to ∧ PtSnd X W to f
theorem pt_none : PtE X W none oNone := ⟨_, po_none, fun B F ρ σ H Q S z => z F H S (Ex.refl F)⟩
theorem pt_some (h : OE X W a pa) : PtE X W (some a) (oPart pa) := by
  obtain ⟨_, h1, s1⟩ := h.ex
  refine ⟨_, po_some h1, fun B F ρ σ H Q S z => ?_⟩
  exact s1 B F ρ σ H _ S (EndG.cont z fun q ρ1 F1 H1 S1 e1 z1 v hv => by
    cases hq : q.get ρ1 with
    | none => rw [hq] at z1; exact z1.elim
    | some d =>
      rw [hq] at z1
      have hv := hv.get S1 hq
      cases d with
      | int i => cases hv.int; exact ⟨i, rfl, z1 F1 H1 S1 (Ex.refl F1)⟩
      | _ => exact z1.elim)
/-- xs[lo:hi] of a list: a new list -/
def slD : D → Option Int → Option Int → Option CO
  | .lst l, lo, hi => some (.lst (cutD l lo hi))
  | .seq l, lo, hi => some (.lst (cutD l lo hi))
  | .tup l, lo, hi => if HT.sIx l.length 0 lo = 0 ∧ HT.sIx l.length l.length hi = l.length then none else some (.tup (cutD l lo hi))
  | _, _, _ => none
def nSl (p : EnvD → Rs PD) (lo hi : EnvD → Rs (Option Int)) : EnvD → Rs CO := fun ρ => (p ρ).bind fun q ρ1 => (lo ρ1).bind fun l ρ2 => (hi ρ2).bind fun h ρ3 => optR ((q.get ρ3).bind fun d => slD d l h) ρ3
theorem ne_slice {lo hi : Option Expr} {fl fh : EnvD → Rs (Option Int)} {p2 : Pos} (ha : OE X W a pa) (hl : PtE X W lo fl) (hh : PtE X W hi fh) : NE X W (.Subscript a (.Slice lo hi none p2) pos) (nSl pa fl fh) := by
  obtain ⟨_, h1, s1⟩ := ha.ex
  obtain ⟨_, h2, s2⟩ := hl.ex
  obtain ⟨_, h3, s3⟩ := hh.ex
  refine ⟨_, pe_slice (sl_list.or sl_tup) h1 h2 h3, fun B F ρ σ H Q S z => ?_⟩
  exact s1 B F ρ σ H _ S (EndG.cont z fun q ρ1 F1 H1 S1 e1 z1 v hv =>
    s2 B F1 ρ1 σ H1 _ S1 (EndG.cont z1 fun l ρ2 F2 H2 S2 e2 z2 =>
      s3 B F2 ρ2 σ H2 _ S2 (EndG.cont z2 fun h ρ3 F3 H3 S3 e3 z3 => by
        obtain ⟨co, hco, z4⟩ := z3.opt
        obtain ⟨d, hd, hsl⟩ := Option.bind_eq_some_iff.mp hco
        have rv := (hv.ext (e2.trans e3)).get S3 hd
        cases d <;> first | (simp [slD] at hsl; done) | skip
        · rename_i ds
          have hsl : (if HT.sIx ds.length 0 l = 0 ∧ HT.sIx ds.length ds.length h = ds.length then none else some (CO.tup (cutD ds l h))) = some co := hsl
          split at hsl
          · cases hsl
          · rename_i hn
            cases hsl
            obtain ⟨p, vs, rfl, g1, g2⟩ := rv.tup S3.ex
            refine .inr ⟨p, vs, rfl, g1, by rw [g2.length]; exact hn, fun t ht => ?_⟩
            obtain ⟨S4, N4⟩ := S3.newAt ht (COr.tup (g2.cut l h))
            exact z4 F3 _ S4 (Ex.refl F3) t N4
        · cases hsl
          obtain ⟨p, vs, rfl, g1, g2⟩ := rv.lst S3.ex
          refine .inl ⟨p, vs, rfl, SqL.of g1, fun t ht => ?_⟩
          obtain ⟨S4, N4⟩ := S3.newAt ht (COr.lst (g2.cut l h))
          exact z4 F3 _ S4 (Ex.refl F3) t N4
        · cases hsl
          obtain ⟨p, vs, rfl, g1, g2⟩ := rv.seq S3.ex
          refine .inl ⟨p, vs, rfl, g1, fun t ht => ?_⟩
          obtain ⟨S4, N4⟩ := S3.newAt ht (COr.lst (g2.cut l h))
          exact z4 F3 _ S4 (Ex.refl F3) t N4)))
end

/-! ### built-ins called by name -/
def getAll (ρ : EnvD) : List PD → Option (List D)
  | [] => some []
  | p :: ps => (p.get ρ).bind fun d => (getAll ρ ps).map fun ds => d :: ds
def RepVs (K : PySem.W.Frag) (mg : Str → Option Value) (F H : Hp) : List V → List D → Prop
  | [], [] => True
  | v :: vs, d :: ds => RepV K mg F H v d ∧ RepVs K mg F H vs ds
  | _, _ => False
theorem PReps.get {K : PySem.W.Frag} {mg : Str → Option Value} {B : Bs} {F : Hp} {σ : L2.St} {ρ : EnvD} {H : Hp} (S : StR K mg B F ρ σ H) : ∀ {vs : List V} {ps : List PD} {ds : List D}, PReps K mg F σ vs ps → getAll ρ ps = some ds → RepVs K mg F H vs ds
  | [], [], _, _, g => by cases g; trivial
  | v :: vs, p :: ps, ds, ⟨h, r⟩, g => by
    obtain ⟨d, h1, g⟩ := Option.bind_eq_some_iff.mp g
    obtain ⟨ds', h2, g⟩ := Option.map_eq_some_iff.mp g
    subst g
    exact ⟨h.get S h1, PReps.get S r h2⟩
  | [], _ :: _, _, h, _ => h.elim
  | _ :: _, [], _, h, _ => h.elim
def eCall (g : List D → Option D) (ps : EnvD → Rs (List PD)) : EnvD → Rs D := fun ρ => (ps ρ).bind fun q ρ1 => optR ((getAll ρ1 q).bind g) ρ1
def nCall (g : List D → Option CO) (ps : EnvD → Rs (List PD)) : EnvD → Rs CO := fun ρ => (ps ρ).bind fun q ρ1 => optR ((getAll ρ1 q).bind g) ρ1
section
variable (X : Cx)
def CallD (r : List V → Hp → VK → Prop) (g : List D → Option D) : Prop := ∀ B F ρ σ H vs ds d Q, StR X.K X.mg B F ρ σ H → RepVs X.K X.mg F H vs ds → g ds = some d →
  (∀ v F' H', StR X.K X.mg B F' ρ σ H' → Ex F F' → Rep X.K X.mg F' v d → Q v H') → r vs H Q
def CallN (r : List V → Hp → VK → Prop) (g : List D → Option CO) : Prop := ∀ B F ρ σ H vs ds d Q, StR X.K X.mg B F ρ σ H → RepVs X.K X.mg F H vs ds → g ds = some d →
  (∀ a F' H', StR X.K X.mg B F' ρ σ H' → Ex F F' → NewAt X.K X.mg B F' H' ρ σ a d → Q (.ref a) H') → r vs H Q
end
section
variable {X : Cx} {W : WX} {e : Expr} {es : List Expr} {pos p : Pos} {fs : EnvD → Rs (List PD)} {x : Str}
theorem call_snd {ta : TA} {r : List V → Hp → VK → Prop} {g : List D → Option D} (ha : OASnd X W ta fs) (hg : CallD X r g) : DSnd X W (tCB r ta) (eCall g fs) := fun B F ρ σ H Q S z =>
  ha B F ρ σ H _ S (EndG.cont z fun q ρ1 F1 H1 S1 e1 z1 vs hv => by
    obtain ⟨d, hd, z2⟩ := z1.opt
    obtain ⟨ds, h1, h2⟩ := Option.bind_eq_some_iff.mp hd
    exact hg B F1 ρ1 σ H1 vs ds d Q S1 (hv.get S1 h1) h2 fun u F' H' S' e' r' => z2 F' H' S' e' u r')
theorem ncall_snd {ta : TA} {r : List V → Hp → VK → Prop} {g : List D → Option CO} (ha : OASnd X W ta fs) (hg : CallN X r g) : NSnd X W (tCB r ta) (nCall g fs) := fun B F ρ σ H Q S z =>
  ha B F ρ σ H _ S (EndG.cont z fun q ρ1 F1 H1 S1 e1 z1 vs hv => by
    obtain ⟨d, hd, z2⟩ := z1.opt
    obtain ⟨ds, h1, h2⟩ := Option.bind_eq_some_iff.mp hd
    exact hg B F1 ρ1 σ H1 vs ds d Q S1 (hv.get S1 h1) h2 fun u F' H' S' e' r' => z2 F' H' S' e' u r')
theorem de_callB {id : String} {r : List V → Hp → VK → Prop} {g : List D → Option D} (hc : CallR X (.builtin id) r) (hg' : CallD X r g) (hg : Gl X x) (hm : X.mg x = none) (hv : bootBuiltins x = some (.builtin id)) (ha : OA X W (e :: es) fs) (hn : x ≠ "__name__" := by decide) (hdb : (x == ("__debug__" : Str)) = false := by decide)
    (he : starEach (e :: es) X.env = (false, eval e X.env) :: starEach es X.env := by rfl) (hpl : (backTo pos (starEach es X.env)).any (·.1) = false := by rfl) : DE X W (.Call (.Name x p) (e :: es) [] pos) (eCall g fs) :=
  let ⟨_, h1, s1⟩ := ha.ex; ⟨_, pe_callB hc hg hm hv h1 hn hdb he hpl, call_snd s1 hg'⟩
theorem ne_callB {id : String} {r : List V → Hp → VK → Prop} {g : List D → Option CO} (hc : CallR X (.builtin id) r) (hg' : CallN X r g) (hg : Gl X x) (hm : X.mg x = none) (hv : bootBuiltins x = some (.builtin id)) (ha : OA X W (e :: es) fs) (hn : x ≠ "__name__" := by decide) (hdb : (x == ("__debug__" : Str)) = false := by decide)
    (he : starEach (e :: es) X.env = (false, eval e X.env) :: starEach es X.env := by rfl) (hpl : (backTo pos (starEach es X.env)).any (·.1) = false := by rfl) : NE X W (.Call (.Name x p) (e :: es) [] pos) (nCall g fs) :=
  let ⟨_, h1, s1⟩ := ha.ex; ⟨_, pe_callB hc hg hm hv h1 hn hdb he hpl, ncall_snd s1 hg'⟩
theorem de_callTy {T : String} {r : List V → Hp → VK → Prop} {g : List D → Option D} (hc : CallR X (.type T) r) (hg' : CallD X r g) (hg : Gl X x) (hm : X.mg x = none) (hv : bootBuiltins x = some (.type T)) (ha : OA X W (e :: es) fs) (hn : x ≠ "__name__" := by decide) (hdb : (x == ("__debug__" : Str)) = false := by decide)
    (he : starEach (e :: es) X.env = (false, eval e X.env) :: starEach es X.env := by rfl) (hpl : (backTo pos (starEach es X.env)).any (·.1) = false := by rfl) : DE X W (.Call (.Name x p) (e :: es) [] pos) (eCall g fs) :=
  let ⟨_, h1, s1⟩ := ha.ex; ⟨_, pe_callTy hc hg hm hv h1 hn hdb he hpl, call_snd s1 hg'⟩
theorem ne_callTy {T : String} {r : List V → Hp → VK → Prop} {g : List D → Option CO} (hc : CallR X (.type T) r) (hg' : CallN X r g) (hg : Gl X x) (hm : X.mg x = none) (hv : bootBuiltins x = some (.type T)) (ha : OA X W (e :: es) fs) (hn : x ≠ "__name__" := by decide) (hdb : (x == ("__debug__" : Str)) = false := by decide)
    (he : starEach (e :: es) X.env = (false, eval e X.env) :: starEach es X.env := by rfl) (hpl : (backTo pos (starEach es X.env)).any (·.1) = false := by rfl) : NE X W (.Call (.Name x p) (e :: es) [] pos) (nCall g fs) :=
  let ⟨_, h1, s1⟩ := ha.ex; ⟨_, pe_callTy hc hg hm hv h1 hn hdb he hpl, ncall_snd s1 hg'⟩
end
def lenD : List D → Option D
  | [.str y] => if y.length ≤ sizeLine then some (.int y.length) else none
  | [.lst l] => some (.int l.length)
  | [.seq l] => some (.int l.length)
  | [.tup l] => some (.int l.length)
  | _ => none
def intD : List D → Option D
  | [.int i] => some (.int i)
  | [.bl b] => some (.int (if b then 1 else 0))
  | _ => none
def maxD : List D → Option D
  | [.int i, .int j] => some (.int (if j > i then j else i))
  | _ => none
def minD : List D → Option D
  | [.int i, .int j] => some (.int (if j < i then j else i))
  | _ => none
def absD : List D → Option D
  | [.int i] => some (.int (if i < 0 then -i else i))
  | _ => none
def blsOf : List D → Option (List Bool)
  | [] => some []
  | .bl b :: ds => (blsOf ds).map fun bs => b :: bs
  | _ => none
def intsOf : List D → Option (List Int)
  | [] => some []
  | .int b :: ds => (intsOf ds).map fun bs => b :: bs
  | _ => none
def anyD : List D → Option D
  | [.lst l] => (blsOf l).map fun bs => .bl (bs.any id)
  | _ => none
def allD : List D → Option D
  | [.lst l] => (blsOf l).map fun bs => .bl (bs.all id)
  | _ => none
def listD : List D → Option CO
  | [.lst l] => some (.lst l)
  | [.seq l] => some (.lst l)
  | [.tup l] => some (.lst l)
  | _ => none
def tupleD : List D → Option CO
  | [.lst l] => some (.tup l)
  | [.seq l] => some (.tup l)
  | _ => none
def insI (x : Int) : List Int → List Int
  | [] => [x]
  | y :: ys => if x ≤ y then x :: y :: ys else y :: insI x ys
def isort : List Int → List Int
  | [] => []
  | x :: xs => insI x (isort xs)
theorem insI_perm (x : Int) : ∀ l : List Int, (insI x l).Perm (x :: l)
  | [] => .refl _
  | y :: ys => by
    unfold insI
    split
    · exact .refl _
    · exact ((insI_perm x ys).cons y).trans (.swap x y ys)
theorem isort_perm : ∀ l : List Int, (isort l).Perm l
  | [] => .refl _
  | x :: xs => (insI_perm x _).trans ((isort_perm xs).cons x)
theorem insI_up (x : Int) : ∀ l : List Int, l.Pairwise (· ≤ ·) → (insI x l).Pairwise (· ≤ ·)
  | [], _ => by simp [insI]
  | y :: ys, h => by
    unfold insI
    obtain ⟨h1, h2⟩ := List.pairwise_cons.mp h
    split
    · rename_i c
      refine List.pairwise_cons.mpr ⟨fun z hz => ?_, h⟩
      rcases List.mem_cons.mp hz with rfl | hz
      · exact c
      · exact Int.le_trans c (h1 z hz)
    · rename_i c
      refine List.pairwise_cons.mpr ⟨fun z hz => ?_, insI_up x ys h2⟩
      rcases List.mem_cons.mp ((insI_perm x ys).mem_iff.mp hz) with rfl | hz
      · omega
      · exact h1 z hz
theorem isort_up : ∀ l : List Int, (isort l).Pairwise (· ≤ ·)
  | [] => .nil
  | x :: xs => insI_up x _ (isort_up xs)
def sortedD : List D → Option CO
  | [.lst l] => (intsOf l).bind fun ns => if ns.length < 64 then some (.lst ((isort ns).map .int)) else none
  | _ => none
section
variable {X : Cx} {K : PySem.W.Frag} {mg : Str → Option Value} {F H : Hp}
theorem reps_bls : ∀ {vs : List V} {ds : List D} {bs : List Bool}, Reps K mg F vs ds → blsOf ds = some bs → vs = bs.map V.bl
  | _, [], bs, .nil, h => by cases h; rfl
  | _, d :: ds, bs, .cons r rs, h => by
    cases d <;> first | (simp [blsOf] at h; done) | skip
    obtain ⟨bs', h1, h2⟩ := Option.map_eq_some_iff.mp h
    subst h2
    cases r
    rw [reps_bls rs h1]
    rfl
theorem reps_ints : ∀ {vs : List V} {ds : List D} {bs : List Int}, Reps K mg F vs ds → intsOf ds = some bs → vs = bs.map V.int
  | _, [], bs, .nil, h => by cases h; rfl
  | _, d :: ds, bs, .cons r rs, h => by
    cases d <;> first | (simp [intsOf] at h; done) | skip
    obtain ⟨bs', h1, h2⟩ := Option.map_eq_some_iff.mp h
    subst h2
    cases r
    rw [reps_ints rs h1]
    rfl
theorem rv1 {vs : List V} {d : D} (h : RepVs K mg F H vs [d]) : ∃ v, vs = [v] ∧ RepV K mg F H v d := by
  match vs, h with
  | [v], h => exact ⟨v, rfl, h.1⟩
theorem rv2 {vs : List V} {d e : D} (h : RepVs K mg F H vs [d, e]) : ∃ v u, vs = [v, u] ∧ RepV K mg F H v d ∧ RepV K mg F H u e := by
  match vs, h with
  | [v, u], h => exact ⟨v, u, rfl, h.1, h.2.1⟩
theorem c_len : CallD X (fun xs H Q => ∃ x n, xs = [x] ∧ LenV X.K x H n ∧ Q (.int n) H) lenD := by
  intro B F ρ σ H vs ds d Q S hv hg k
  unfold lenD at hg
  split at hg
  · obtain ⟨v, rfl, h⟩ := rv1 hv
    split at hg
    · cases hg; cases h.str
      exact ⟨_, _, rfl, ⟨by assumption, rfl⟩, k _ F H S (Ex.refl F) (.int _)⟩
    · cases hg
  · obtain ⟨v, rfl, h⟩ := rv1 hv
    cases hg
    obtain ⟨a, ws, rfl, h1, h2⟩ := h.lst S.ex
    exact ⟨_, _, rfl, .inl ⟨ws, SqL.of h1, h2.length.symm⟩, k _ F H S (Ex.refl F) (.int _)⟩
  · obtain ⟨v, rfl, h⟩ := rv1 hv
    cases hg
    obtain ⟨a, ws, rfl, h1, h2⟩ := h.seq S.ex
    exact ⟨_, _, rfl, .inl ⟨ws, h1, h2.length.symm⟩, k _ F H S (Ex.refl F) (.int _)⟩
  · obtain ⟨v, rfl, h⟩ := rv1 hv
    cases hg
    obtain ⟨a, ws, rfl, h1, h2⟩ := h.tup S.ex
    exact ⟨_, _, rfl, .inr ⟨ws, h1, h2.length.symm⟩, k _ F H S (Ex.refl F) (.int _)⟩
  · cases hg
theorem c_int : CallD X (fun xs H Q => (∃ i, xs = [.int i] ∧ Q (.int i) H) ∨ ∃ k, xs = [.bl k] ∧ Q (.int (if k then 1 else 0)) H) intD := by
  intro B F ρ σ H vs ds d Q S hv hg k
  unfold intD at hg
  split at hg
  · obtain ⟨v, rfl, h⟩ := rv1 hv
    cases hg; cases h.int
    exact .inl ⟨_, rfl, k _ F H S (Ex.refl F) (.int _)⟩
  · obtain ⟨v, rfl, h⟩ := rv1 hv
    cases hg; cases h.bl
    exact .inr ⟨_, rfl, k _ F H S (Ex.refl F) (.int _)⟩
  · cases hg
theorem c_max : CallD X (fun xs H Q => ∃ i j, xs = [.int i, .int j] ∧ Q (.int (if j > i then j else i)) H) maxD := by
  intro B F ρ σ H vs ds d Q S hv hg k
  unfold maxD at hg
  split at hg
  · obtain ⟨v, u, rfl, h1, h2⟩ := rv2 hv
    cases hg; cases h1.int; cases h2.int
    exact ⟨_, _, rfl, k _ F H S (Ex.refl F) (.int _)⟩
  · cases hg
theorem c_min : CallD X (fun xs H Q => ∃ i j, xs = [.int i, .int j] ∧ Q (.int (if j < i then j else i)) H) minD := by
  intro B F ρ σ H vs ds d Q S hv hg k
  unfold minD at hg
  split at hg
  · obtain ⟨v, u, rfl, h1, h2⟩ := rv2 hv
    cases hg; cases h1.int; cases h2.int
    exact ⟨_, _, rfl, k _ F H S (Ex.refl F) (.int _)⟩
  · cases hg
theorem c_abs : CallD X (fun xs H Q => ∃ i, xs = [.int i] ∧ Q (.int (if i < 0 then -i else i)) H) absD := by
  intro B F ρ σ H vs ds d Q S hv hg k
  unfold absD at hg
  split at hg
  · obtain ⟨v, rfl, h⟩ := rv1 hv
    cases hg; cases h.int
    exact ⟨_, rfl, k _ F H S (Ex.refl F) (.int _)⟩
  · cases hg
theorem c_any : CallD X (rAny X.K) anyD := by
  intro B F ρ σ H vs ds d Q S hv hg k
  unfold anyD at hg
  split at hg
  · obtain ⟨v, rfl, h⟩ := rv1 hv
    obtain ⟨bs, h1, h2⟩ := Option.map_eq_some_iff.mp hg
    subst h2
    obtain ⟨a, ws, rfl, h3, h4⟩ := h.lst S.ex
    have e := reps_bls h4 h1
    subst e
    exact ⟨a, bs, rfl, SqL.of h3, k _ F H S (Ex.refl F) (.bl _)⟩
  · cases hg
theorem c_all : CallD X (rAll X.K) allD := by
  intro B F ρ σ H vs ds d Q S hv hg k
  unfold allD at hg
  split at hg
  · obtain ⟨v, rfl, h⟩ := rv1 hv
    obtain ⟨bs, h1, h2⟩ := Option.map_eq_some_iff.mp hg
    subst h2
    obtain ⟨a, ws, rfl, h3, h4⟩ := h.lst S.ex
    have e := reps_bls h4 h1
    subst e
    exact ⟨a, bs, rfl, SqL.of h3, k _ F H S (Ex.refl F) (.bl _)⟩
  · cases hg
theorem c_list : CallN X (fun xs H Q => ∃ p ys, xs = [.ref p] ∧ (SqL X.K H p ys ∨ SqT X.K H p ys) ∧ ∀ l, H l = none → Q (.ref l) (upd H l (.lst ys))) listD := by
  intro B F ρ σ H vs ds d Q S hv hg k
  have fin : ∀ (a : Addr) (ws : List V) (l : List D), (SqL X.K H a ws ∨ SqT X.K H a ws) → Reps X.K X.mg F ws l → d = .lst l → vs = [.ref a] → ∃ p ys, vs = [.ref p] ∧ (SqL X.K H p ys ∨ SqT X.K H p ys) ∧ ∀ l, H l = none → Q (.ref l) (upd H l (.lst ys)) := by
    rintro a ws l h1 h2 rfl rfl
    refine ⟨a, ws, rfl, h1, fun t ht => ?_⟩
    obtain ⟨S4, N4⟩ := S.newAt ht (COr.lst h2)
    exact k t F _ S4 (Ex.refl F) N4
  unfold listD at hg
  split at hg
  · obtain ⟨v, rfl, h⟩ := rv1 hv
    obtain ⟨a, ws, rfl, h3, h4⟩ := h.lst S.ex
    cases hg
    exact fin a ws _ (.inl (SqL.of h3)) h4 rfl rfl
  · obtain ⟨v, rfl, h⟩ := rv1 hv
    obtain ⟨a, ws, rfl, h3, h4⟩ := h.seq S.ex
    cases hg
    exact fin a ws _ (.inl h3) h4 rfl rfl
  · obtain ⟨v, rfl, h⟩ := rv1 hv
    obtain ⟨a, ws, rfl, h3, h4⟩ := h.tup S.ex
    cases hg
    exact fin a ws _ (.inr h3) h4 rfl rfl
  · cases hg
theorem c_tuple : CallN X (fun xs H Q => ∃ p ys, xs = [.ref p] ∧ ((SqL X.K H p ys ∧ ∀ l, H l = none → Q (.ref l) (upd H l (.tup ys))) ∨ (SqT X.K H p ys ∧ Q (.ref p) H))) tupleD := by
  intro B F ρ σ H vs ds d Q S hv hg k
  unfold tupleD at hg
  split at hg
  · obtain ⟨v, rfl, h⟩ := rv1 hv
    obtain ⟨a, ws, rfl, h3, h4⟩ := h.lst S.ex
    cases hg
    refine ⟨a, ws, rfl, .inl ⟨SqL.of h3, fun t ht => ?_⟩⟩
    obtain ⟨S4, N4⟩ := S.newAt ht (COr.tup h4)
    exact k t F _ S4 (Ex.refl F) N4
  · obtain ⟨v, rfl, h⟩ := rv1 hv
    obtain ⟨a, ws, rfl, h3, h4⟩ := h.seq S.ex
    cases hg
    refine ⟨a, ws, rfl, .inl ⟨h3, fun t ht => ?_⟩⟩
    obtain ⟨S4, N4⟩ := S.newAt ht (COr.tup h4)
    exact k t F _ S4 (Ex.refl F) N4
  · cases hg
theorem c_sorted : CallN X (rSorted X.K) sortedD := by
  intro B F ρ σ H vs ds d Q S hv hg k
  unfold sortedD at hg
  split at hg
  · obtain ⟨v, rfl, h⟩ := rv1 hv
    obtain ⟨ns, h1, h2⟩ := Option.bind_eq_some_iff.mp hg
    split at h2
    · rename_i hl
      cases h2
      obtain ⟨a, ws, rfl, h3, h4⟩ := h.lst S.ex
      have e := reps_ints h4 h1
      subst e
      refine ⟨a, ns, rfl, SqL.of h3, hl, fun ns' p pm pw hp => ?_⟩
      have e2 : ns' = isort ns := PySem.W.lks_uniq (pm.trans (isort_perm ns).symm) pw (isort_up ns)
      subst e2
      obtain ⟨S4, N4⟩ := S.newAt hp (COr.lst (Reps.ints (isort ns)))
      exact k p F _ S4 (Ex.refl F) N4
    · cases h2
  · cases hg
end
end DL

/-! The data layer, 5: statements, loops, comprehensions. -/
namespace DL
open PySem PySem.Spec PyProof.Rows L2

/-! ### canonical readings -/
section
variable (K : PySem.W.Frag) (mg : Str → Option Value) (W : WX)
def teOf (f : EnvD → Rs D) : TE := fun σ H Q => ∃ B F ρ, StR K mg B F ρ σ H ∧ EndG K mg B F σ W (PV K mg Q) (f ρ)
def ttOf (f : EnvD → Rs Bool) : TT := fun σ H Q => ∃ B F ρ, StR K mg B F ρ σ H ∧ EndG K mg B F σ W (PB Q) (f ρ)
def tsOf (f : EnvD → RS) : TS := fun Dn σ H => ∃ B F ρ, StR K mg B F ρ σ H ∧ EndS K mg B F W Dn (f ρ)
end
section
variable {X : Cx} {W : WX} {e : Expr}
theorem DE.can {f : EnvD → Rs D} (h : DE X W e f) : PE X e (teOf X.K X.mg W f) := by
  obtain ⟨te, h1, h2⟩ := h.ex
  exact ⟨fun pins s σ H Q I ⟨B, F, ρ, S, z⟩ => h1.run pins s σ H Q I (h2 B F ρ σ H Q S z)⟩
theorem DT.can {f : EnvD → Rs Bool} (h : DT X W e f) : PT X e (ttOf X.K X.mg W f) := by
  obtain ⟨te, h1, h2⟩ := h.ex
  exact ⟨fun pins s σ H Q I ⟨B, F, ρ, S, z⟩ => h1.run pins s σ H Q I (h2 B F ρ σ H Q S z)⟩
theorem teOf_snd {f : EnvD → Rs D} : DSnd X W (teOf X.K X.mg W f) f := fun B F ρ σ H Q S z => ⟨B, F, ρ, S, z⟩
theorem ttOf_snd {f : EnvD → Rs Bool} : TSnd X W (ttOf X.K X.mg W f) f := fun B F ρ σ H Q S z => ⟨B, F, ρ, S, z⟩
end

/-! ### statements -/
section
variable (X : Cx) (W : WX)
def SSnd (ts : TS) (f : EnvD → RS) : Prop := ∀ B F ρ σ H Dn, StR X.K X.mg B F ρ σ H → EndS X.K X.mg B F W Dn (f ρ) → ts Dn σ H
structure DS (st : Stmt) (f : EnvD → RS) : Prop where mk :: ex : ∃ ts, PS X st ts ∧ SSnd X W ts f
structure DSs (st : List Stmt) (f : EnvD → RS) : Prop where mk :: ex : ∃ ts, PSs X st ts ∧ SSnd X W ts f
end
theorem DSs.can {X : Cx} {W : WX} {st : List Stmt} {f : EnvD → RS} (h : DSs X W st f) : PSs X st (tsOf X.K X.mg W f) := by
  obtain ⟨te, h1, h2⟩ := h.ex
  exact ⟨fun pins s σ H D I ⟨B, F, ρ, S, z⟩ => h1.run pins s σ H D I (h2 B F ρ σ H D S z)⟩
theorem tsOf_snd {X : Cx} {W : WX} {f : EnvD → RS} : SSnd X W (tsOf X.K X.mg W f) f := fun B F ρ σ H Dn S z => ⟨B, F, ρ, S, z⟩
def isP (ρ : EnvD) (i : Nat) : Bool := match ρ[i]? with
  | some (.p _) => true
  | _ => false
theorem isP_no {ρ : EnvD} {i : Nat} (h : isP ρ i = false) : ∀ o, ρ[i]? ≠ some (.p o) := fun o e => by
  unfold isP at h
  rw [e] at h
  cases h
def sNx : EnvD → RS := fun ρ => .nx ρ
def sBad : EnvD → RS := fun _ => .bad
def sSeq (f g : EnvD → RS) : EnvD → RS := fun ρ => (f ρ).bind g
def sRet (f : EnvD → Rs D) : EnvD → RS := fun ρ => (f ρ).bindS fun d ρ' => .rt d ρ'
def sRetN : EnvD → RS := fun ρ => .rt .non ρ
def sDrop (f : EnvD → Rs D) : EnvD → RS := fun ρ => (f ρ).bindS fun _ ρ' => .nx ρ'
def sSet (i : Nat) (f : EnvD → Rs D) : EnvD → RS := fun ρ => (f ρ).bindS fun d ρ' => if isP ρ' i = true then .bad else .nx (ρ'.set i (.t d))
def sSetN (i : Nat) (f : EnvD → Rs CO) : EnvD → RS := fun ρ => (f ρ).bindS fun d ρ' => if isP ρ' i = true then .bad else .nx (ρ'.set i (.c d))
def sIf (c : EnvD → Rs Bool) (f g : EnvD → RS) : EnvD → RS := fun ρ => (c ρ).bindS fun k ρ' => if k = true then f ρ' else g ρ'
def sBk : EnvD → RS := fun ρ => .bk ρ
def sCt : EnvD → RS := fun ρ => .ct ρ
section
variable {X : Cx} {W : WX} {st : Stmt} {rest : List Stmt} {e : Expr} {pos : Pos} {f g : EnvD → RS} {fe : EnvD → Rs D}
theorem dss_nil : DSs X W [] sNx := ⟨_, pss_nil, fun B F ρ σ H Dn S z => z σ F H S (Ex.refl F)⟩
theorem dss_one (h : DS X W st f) : DSs X W [st] f := let ⟨_, h1, s1⟩ := h.ex; ⟨_, pss_one h1, s1⟩
theorem dss_cons (h : DS X W st f) (hr : DSs X W rest g) : DSs X W (st :: rest) (sSeq f g) := by
  obtain ⟨_, h1, s1⟩ := h.ex
  obtain ⟨_, h2, s2⟩ := hr.ex
  refine ⟨_, pss_cons h1 h2, fun B F ρ σ H Dn S z => ?_⟩
  refine s1 B F ρ σ H _ S ?_
  unfold sSeq at z
  cases q : f ρ with
  | nx ρ' => rw [q] at z; exact fun σ' F' H' S' e' => s2 B F' ρ' σ' H' Dn S' (EndS.ext e' z)
  | rt d ρ' => rw [q] at z; exact z
  | rn co ρ' => rw [q] at z; exact z
  | bk ρ' => rw [q] at z; exact z
  | ct ρ' => rw [q] at z; exact z
  | ex c fs ρ' => rw [q] at z; exact z
  | bad => rw [q] at z; exact z
theorem ds_ret (h : DE X W e fe) : DS X W (.Return (some e) pos) (sRet fe) := by
  obtain ⟨_, h1, s1⟩ := h.ex
  refine ⟨_, ps_ret h1, fun B F ρ σ H Dn S z => ?_⟩
  exact s1 B F ρ σ H _ S (EndS.cont z fun d ρ1 F1 H1 S1 e1 z1 v r => z1 σ F1 H1 v S1 (Ex.refl F1) r)
theorem ds_retN : DS X W (.Return none pos) sRetN := ⟨_, ps_retN, fun B F ρ σ H Dn S z => z σ F H .non S (Ex.refl F) .non⟩
/-- return of a new object: it is the caller's -/
def sRetO (f : EnvD → Rs CO) : EnvD → RS := fun ρ => (f ρ).bindS fun co ρ' => .rn co ρ'
theorem ds_retO {fn : EnvD → Rs CO} (h : NE X W e fn) : DS X W (.Return (some e) pos) (sRetO fn) := by
  obtain ⟨_, h1, s1⟩ := h.ex
  refine ⟨_, ps_ret h1, fun B F ρ σ H Dn S z => ?_⟩
  exact s1 B F ρ σ H _ S (EndS.cont z fun d ρ1 F1 H1 S1 e1 z1 a N => z1 σ F1 H1 a S1 (Ex.refl F1) N)
/-- return x: what it owns goes to the caller -/
def sRetV (i : Nat) : EnvD → RS := fun ρ => match ρ[i]? with
  | some (.t d) => .rt d ρ
  | some (.c co) => .rn co (ρ.set i .no)
  | _ => .bad
theorem ds_retV {i : Nat} {te : TE} (h : PE X e te) (ht : te = tVar i) : DS X W (.Return (some e) pos) (sRetV i) := by
  subst ht
  refine ⟨_, ps_ret h, fun B F ρ σ H Dn S z => ?_⟩
  unfold sRetV at z
  cases q : ρ[i]? with
  | none => rw [q] at z; exact z.elim
  | some s =>
    rw [q] at z
    cases s with
    | no => exact z.elim
    | p co => exact z.elim
    | t d =>
      obtain ⟨v, h1, h2⟩ := S.slot i _ q
      exact ⟨v, h1, z σ F H v S (Ex.refl F) h2⟩
    | c co =>
      obtain ⟨a, o, h1, h2, h3, h4, h5⟩ := S.cell q rfl
      have S' : StR X.K X.mg B F (ρ.set i .no) σ H := S.forget (by rw [List.length_set]; exact S.len) fun j s e => by
        rcases getset e with ⟨rfl, rfl, _⟩ | ⟨_, e⟩
        · exact .inl rfl
        · exact .inr ⟨e, rfl⟩
      refine ⟨_, h1, z σ F H a S' (Ex.refl F) ⟨⟨o, h2, h4⟩, h3, S.own i a co q h1, fun j hj => ?_⟩⟩
      obtain ⟨⟨s, c, e, hc⟩, e2⟩ := hj
      rcases getset e with ⟨rfl, rfl, _⟩ | ⟨hj, e⟩
      · simp [isCell] at hc
      · exact hj (S.apart j i a ⟨⟨s, c, e, hc⟩, e2⟩ h5)
theorem ds_expr (h : DE X W e fe) (hs : swapsWith e none pos.line X.env = pure false := by rfl) : DS X W (.Expr e pos) (sDrop fe) := by
  obtain ⟨_, h1, s1⟩ := h.ex
  refine ⟨_, ps_expr h1 hs, fun B F ρ σ H Dn S z => ?_⟩
  exact s1 B F ρ σ H _ S (EndS.cont z fun d ρ1 F1 H1 S1 e1 z1 v r => z1 σ F1 H1 S1 (Ex.refl F1))
theorem ds_doc {x : Str} {j : Nat} {pos' : Pos} : DS X W (.Expr (.Constant (.str x) j pos) pos') sNx := ⟨_, ps_doc, fun B F ρ σ H Dn S z => z σ F H S (Ex.refl F)⟩
theorem ds_never : DS X W st sBad := ⟨_, ps_never, fun B F ρ σ H Dn S z => z.elim⟩
theorem ds_pass : DS X W (.Pass pos) sNx := ⟨_, ps_pass, fun B F ρ σ H Dn S z => z σ F H S (Ex.refl F)⟩
theorem ds_break : DS X W (.Break pos) sBk := ⟨_, ps_break, fun B F ρ σ H Dn S z => z σ F H S (Ex.refl F)⟩
theorem ds_continue : DS X W (.Continue pos) sCt := ⟨_, ps_continue, fun B F ρ σ H Dn S z => z σ F H S (Ex.refl F)⟩
theorem set_snd {te : TE} {i : Nat} (s1 : DSnd X W te fe) : SSnd X W (tAsg te (gName i)) (sSet i fe) := fun B F ρ σ H Dn S z =>
  s1 B F ρ σ H _ S (EndS.cont z fun d ρ1 F1 H1 S1 e1 z1 v r => by
    cases q : isP ρ1 i with
    | true => rw [q] at z1; exact z1.elim
    | false =>
      rw [q] at z1
      exact z1 (σ.set i (some v)) F1 H1 (S1.put r (isP_no q)) (Ex.refl F1))
theorem setN_snd {te : TE} {i : Nat} {fn : EnvD → Rs CO} (s1 : NSnd X W te fn) : SSnd X W (tAsg te (gName i)) (sSetN i fn) := fun B F ρ σ H Dn S z =>
  s1 B F ρ σ H _ S (EndS.cont z fun d ρ1 F1 H1 S1 e1 z1 a N => by
    cases q : isP ρ1 i with
    | true => rw [q] at z1; exact z1.elim
    | false =>
      rw [q] at z1
      exact z1 (σ.set i (some (.ref a))) F1 H1 (S1.putN N (isP_no q)) (Ex.refl F1))
theorem ds_set {i : Nat} {x : Str} {pos' : Pos} (h : DE X W e fe) (hN : X.N.Nodup) (hi : X.N[i]? = some x) (hx : Loc X.env.scope x) (hs : swapsWith e (some (.Name x pos')) pos.line X.env = pure false := by rfl)
    (hf : X.fn x = true ∨ X.env.scope.names.lookup x = some .local := by first | exact .inl rfl | exact .inr rfl | assumption) : DS X W (.Assign [.Name x pos'] e pos) (sSet i fe) :=
  let ⟨_, h1, s1⟩ := h.ex; ⟨_, ps_set hN hi hx h1 hs hf, set_snd s1⟩
theorem ds_setN {i : Nat} {x : Str} {pos' : Pos} {fn : EnvD → Rs CO} (h : NE X W e fn) (hN : X.N.Nodup) (hi : X.N[i]? = some x) (hx : Loc X.env.scope x) (hs : swapsWith e (some (.Name x pos')) pos.line X.env = pure false := by rfl)
    (hf : X.fn x = true ∨ X.env.scope.names.lookup x = some .local := by first | exact .inl rfl | exact .inr rfl | assumption) : DS X W (.Assign [.Name x pos'] e pos) (sSetN i fn) :=
  let ⟨_, h1, s1⟩ := h.ex; ⟨_, ps_set hN hi hx h1 hs hf, setN_snd s1⟩
theorem ds_if {c : Expr} {a b : List Stmt} {fc : EnvD → Rs Bool} (hc : DT X W c fc) (ha : DSs X W a f) (hb : DSs X W b g) : DS X W (.If c a b pos) (sIf fc f g) := by
  obtain ⟨_, h1, s1⟩ := hc.ex
  obtain ⟨_, h2, s2⟩ := ha.ex
  obtain ⟨_, h3, s3⟩ := hb.ex
  refine ⟨_, ps_if h1 h2 h3, fun B F ρ σ H Dn S z => ?_⟩
  exact s1 B F ρ σ H _ S (EndS.cont z fun k ρ1 F1 H1 S1 e1 z1 => by
    cases k with
    | true => exact s2 B F1 ρ1 σ H1 Dn S1 z1
    | false => exact s3 B F1 ρ1 σ H1 Dn S1 z1)
end

/-! ### targets -/
def Touch (vs : List Nat) (σ σ' : L2.St) : Prop := σ'.length = σ.length ∧ ∀ j, j ∉ vs → σ'[j]? = σ[j]?
theorem Touch.refl {vs : List Nat} (σ : L2.St) : Touch vs σ σ := ⟨rfl, fun _ _ => rfl⟩
theorem Touch.trans {vs ws : List Nat} {σ σ1 σ2 : L2.St} (a : Touch vs σ σ1) (b : Touch ws σ1 σ2) : Touch (vs ++ ws) σ σ2 :=
  ⟨b.1.trans a.1, fun j hj => (b.2 j fun z => hj (List.mem_append_right _ z)).trans (a.2 j fun z => hj (List.mem_append_left _ z))⟩
theorem wipe_get {vs : List Nat} {σ : L2.St} {j : Nat} : (wipe σ vs)[j]? = if j ∈ vs then (if j < σ.length then some none else none) else σ[j]? := by
  induction vs with
  | nil => simp [wipe]
  | cons v vs ih =>
    show ((wipe σ vs).set v none)[j]? = _
    rw [List.getElem?_set]
    by_cases c : v = j
    · subst c
      simp [wipe_length]
    · rw [if_neg c, ih]
      have hm : (j ∈ v :: vs) ↔ j ∈ vs := by
        constructor
        · intro h
          rcases List.mem_cons.mp h with z | z
          · exact absurd z.symm c
          · exact z
        · exact fun h => List.mem_cons_of_mem _ h
      simp only [hm]
theorem Touch.wipe {vs : List Nat} {σ σ' : L2.St} (t : Touch vs σ σ') : L2.wipe σ' vs = L2.wipe σ vs := by
  apply List.ext_getElem?
  intro j
  rw [wipe_get, wipe_get, t.1]
  by_cases c : j ∈ vs
  · rw [if_pos c, if_pos c]
  · rw [if_neg c, if_neg c, t.2 j c]
def GSnd (K : PySem.W.Frag) (mg : Str → Option Value) (tg : TG) (vs : List Nat) (g : D → EnvD → Option EnvD) : Prop := ∀ B F ρ σ H x d ρ' Q, StR K mg B F ρ σ H → Rep K mg F x d → g d ρ = some ρ' →
  (∀ σ', StR K mg B F ρ' σ' H → Touch vs σ σ' → Q σ' H) → tg x σ H Q
def GsSnd (K : PySem.W.Frag) (mg : Str → Option Value) (tg : TGs) (vs : List Nat) (g : List D → EnvD → Option EnvD) : Prop := ∀ B F ρ σ H xs ds ρ' Q, StR K mg B F ρ σ H → Reps K mg F xs ds → g ds ρ = some ρ' →
  (∀ σ', StR K mg B F ρ' σ' H → Touch vs σ σ' → Q σ' H) → tg xs σ H Q
structure DG (X : Cx) (tg : Expr) (vs : List Nat) (g : D → EnvD → Option EnvD) : Prop where mk :: ex : ∃ t, PG X tg t ∧ GSnd X.K X.mg t vs g
structure DGs (X : Cx) (tg : List Expr) (n : Nat) (vs : List Nat) (g : List D → EnvD → Option EnvD) : Prop where mk :: ex : ∃ t, PGs X tg t ∧ GsSnd X.K X.mg t vs g
def gN (i : Nat) : D → EnvD → Option EnvD := fun d ρ => if isP ρ i = true then none else some (ρ.set i (.t d))
def gsNil : List D → EnvD → Option EnvD := fun ds ρ => match ds with
  | [] => some ρ
  | _ => none
def gsCons (g : D → EnvD → Option EnvD) (h : List D → EnvD → Option EnvD) : List D → EnvD → Option EnvD := fun ds ρ => match ds with
  | d :: r => (g d ρ).bind fun ρ1 => h r ρ1
  | [] => none
def gT (n : Nat) (h : List D → EnvD → Option EnvD) : D → EnvD → Option EnvD := fun d ρ => match d with
  | .tup l => if l.length = n then h l ρ else none
  | _ => none
section
variable {X : Cx} {e : Expr} {es : List Expr} {pos : Pos}
theorem dg_name {i : Nat} {x : Str} (hN : X.N.Nodup) (hi : X.N[i]? = some x) (hx : Loc X.env.scope x) (hf : X.fn x = true ∨ X.env.scope.names.lookup x = some .local := by first | exact .inl rfl | exact .inr rfl | assumption) : DG X (.Name x pos) [i] (gN i) := by
  refine ⟨_, pg_name hN hi hx hf, fun B F ρ σ H x d ρ' Q S r h k => ?_⟩
  unfold gN at h
  cases q : isP ρ i with
  | true => rw [q] at h; cases h
  | false =>
    rw [q] at h
    cases h
    refine k _ (S.put r (isP_no q)) ⟨by rw [List.length_set], fun j hj => ?_⟩
    rw [List.getElem?_set_ne (fun z => hj (by simp [z]))]
theorem dgs_nil : DGs X [] 0 [] gsNil := by
  refine ⟨_, pgs_nil, fun B F ρ σ H xs ds ρ' Q S r h k => ?_⟩
  cases r with
  | nil => cases h; exact ⟨rfl, k σ S (Touch.refl σ)⟩
  | cons _ _ => cases h
theorem dgs_cons {vs ws : List Nat} {n : Nat} {g : D → EnvD → Option EnvD} {h : List D → EnvD → Option EnvD} (h1 : DG X e vs g) (h2 : DGs X es n ws h)
    (hs : (assignEach (e :: es) X.env).map (·.2) = assign e X.env :: (assignEach es X.env).map (·.2) := by rfl) : DGs X (e :: es) (n + 1) (vs ++ ws) (gsCons g h) := by
  obtain ⟨_, p1, s1⟩ := h1.ex
  obtain ⟨_, p2, s2⟩ := h2.ex
  refine ⟨_, pgs_cons p1 p2 hs, fun B F ρ σ H xs ds ρ' Q S r hh k => ?_⟩
  cases r with
  | nil => cases hh
  | cons r rs =>
    obtain ⟨ρ1, g1, g2⟩ := Option.bind_eq_some_iff.mp hh
    exact ⟨_, _, rfl, s1 B F ρ σ H _ _ ρ1 _ S r g1 fun σ1 S1 t1 => s2 B F ρ1 σ1 H _ _ ρ' Q S1 rs g2 fun σ2 S2 t2 => k σ2 S2 (t1.trans t2)⟩
theorem dg_tup {vs : List Nat} {n k : Nat} {h : List D → EnvD → Option EnvD} (hc : X.calm = true) (hs : DGs X es n vs h) (hn : (assignEach es X.env).length = n := by rfl) (hst : (assignEach es X.env).findIdx? (·.1) = none := by rfl) : DG X (.Tuple es k pos) vs (gT n h) := by
  obtain ⟨_, p1, s1⟩ := hs.ex
  refine ⟨_, pg_tup hc p1 hn hst, fun B F ρ σ H x d ρ' Q S r hh kk => ?_⟩
  cases d <;> first | (simp [gT] at hh; done) | skip
  rename_i l
  have hh : (if l.length = n then h l ρ else none) = some ρ' := hh
  split at hh
  · rename_i hl
    cases r with
    | tup q rs => exact ⟨_, _, rfl, S.ex.sqT q, by rw [rs.length]; exact hl, s1 B F ρ σ H _ _ ρ' Q S rs hh kk⟩
  · cases hh
end

/-! ### what is walked -/
structure WalkD (K : PySem.W.Frag) (mg : Str → Option Value) (J : It) (F : Hp) (ds : List D) : Prop where
  goes : ∀ i H, i < ds.length → ExD F H → J.go i H
  stops : ∀ H, ExD F H → J.stop ds.length H
  yields : ∀ i H x H', i < ds.length → ExD F H → J.yld i H x H' → ∃ d, ds[i]? = some d ∧ ((H' = H ∧ Rep K mg F x d) ∨ ∃ T xs es, x = .ref T ∧ H T = none ∧ H' = upd H T (.tup xs) ∧ d = .tup es ∧ Reps K mg F xs es)
theorem WalkD.step {K : PySem.W.Frag} {mg : Str → Option Value} {J : It} {F Fi : Hp} {ds : List D} (w : WalkD K mg J F ds) {B : Bs} {ρ : EnvD} {σ : L2.St} {H H' : Hp} {i : Nat} {x : V} (S : StR K mg B Fi ρ σ H) (e : Ex F Fi) (hi : i < ds.length) (y : J.yld i H x H') :
    ∃ d F2, ds[i]? = some d ∧ Ex Fi F2 ∧ StR K mg B F2 ρ σ H' ∧ Rep K mg F2 x d ∧ Ex H H' := by
  obtain ⟨d, h1, h2⟩ := w.yields i H x H' hi (e.exD S.ex) y
  rcases h2 with ⟨rfl, r⟩ | ⟨T, xs, es, rfl, hT, rfl, rfl, rs⟩
  · exact ⟨d, Fi, h1, Ex.refl Fi, S, r.ext e, Ex.refl _⟩
  · obtain ⟨S2, N2⟩ := S.newAt hT (COr.tup (rs.ext e))
    obtain ⟨F3, S3, e3, r3⟩ := S2.fz N2
    exact ⟨_, F3, h1, e3, S3, r3, Ex.new hT⟩
def ISnd (X : Cx) (W : WX) (wi : TI) (f : EnvD → Rs (List D)) : Prop := ∀ B F ρ σ H R, StR X.K X.mg B F ρ σ H → EndG X.K X.mg B F σ W (fun ds _ F' H' => ∀ J, WalkD X.K X.mg J F' ds → R J H') (f ρ) → wi σ H R
structure DI (X : Cx) (W : WX) (tg e : Expr) (f : EnvD → Rs (List D)) : Prop where mk :: ex : ∃ wi, PI X tg e wi ∧ ISnd X W wi f
/-- over a list or a tuple -/
def iSeq (f : EnvD → Rs D) : EnvD → Rs (List D) := fun ρ => (f ρ).bind fun d ρ1 => optR (itemsD d) ρ1
/-- .. range(a), range(a, b) -/
def rngD (a b : Int) : List D := (List.range (b - a).toNat).map fun k => .int (a + (k : Nat))
def smallR (a : Int) : Bool := match a with
  | .ofNat n => Nat.ble n 1000000
  | .negSucc n => Nat.ble n 1000000
def iRange1 (f : EnvD → Rs PD) : EnvD → Rs (List D) := fun ρ => (f ρ).bind fun p ρ1 => match p.get ρ1 with
  | some (.int j) => if smallR j = true then .ok (rngD 0 j) ρ1 else .bad
  | _ => .bad
def iRange2 (f g : EnvD → Rs PD) : EnvD → Rs (List D) := fun ρ => (f ρ).bind fun p ρ1 => (g ρ1).bind fun q ρ2 => match p.get ρ2, q.get ρ2 with
  | some (.int i), some (.int j) => if (smallR i && smallR j) = true then .ok (rngD i j) ρ2 else .bad
  | _, _ => .bad
def enumD : Nat → List D → List D
  | _, [] => []
  | n, d :: ds => .tup [.int (n : Nat), d] :: enumD (n + 1) ds
def iEnum (f : EnvD → Rs D) : EnvD → Rs (List D) := fun ρ => (f ρ).bind fun d ρ1 => match d with
  | .lst l => .ok (enumD 0 l) ρ1
  | .seq l => .ok (enumD 0 l) ρ1
  | _ => .bad
def zipD : List D → List D → List D
  | x :: xs, y :: ys => .tup [x, y] :: zipD xs ys
  | _, _ => []
def iZip (f g : EnvD → Rs D) : EnvD → Rs (List D) := fun ρ => (f ρ).bind fun d ρ1 => (g ρ1).bind fun e ρ2 => match d, e with
  | .lst l, .lst m => .ok (zipD l m) ρ2
  | .tup l, .tup m => .ok (zipD l m) ρ2
  | _, _ => .bad
theorem rngD_get {a b : Int} {i : Nat} (h : i < (b - a).toNat) : (rngD a b)[i]? = some (.int (a + (i : Nat))) := by
  unfold rngD
  rw [List.getElem?_map, List.getElem?_range h]
  rfl
theorem rngD_len {a b : Int} : (rngD a b).length = (b - a).toNat := by simp [rngD]
theorem enumD_get : ∀ (n : Nat) (l : List D) (i : Nat), (enumD n l)[i]? = l[i]?.map fun d => .tup [.int ((n + i : Nat) : Int), d]
  | n, [], i => by simp [enumD]
  | n, d :: ds, 0 => by simp [enumD]
  | n, d :: ds, i + 1 => by
    show (enumD (n + 1) ds)[i]? = ds[i]?.map _
    rw [enumD_get (n + 1) ds i, show n + 1 + i = n + (i + 1) by omega]
theorem enumD_len : ∀ (n : Nat) (l : List D), (enumD n l).length = l.length
  | _, [] => rfl
  | n, d :: ds => by simp [enumD, enumD_len (n + 1) ds]
theorem zipD_get : ∀ (l m : List D) (i : Nat) (x y : D), l[i]? = some x → m[i]? = some y → (zipD l m)[i]? = some (.tup [x, y])
  | x :: xs, y :: ys, 0, a, b, h1, h2 => by simp at h1 h2; subst h1 h2; rfl
  | x :: xs, y :: ys, i + 1, a, b, h1, h2 => zipD_get xs ys i a b (by simpa using h1) (by simpa using h2)
  | [], _, _, _, _, h, _ => by simp at h
  | _ :: _, [], _, _, _, _, h => by simp at h
theorem zipD_len : ∀ (l m : List D), (zipD l m).length = min l.length m.length
  | x :: xs, y :: ys => by simp [zipD, zipD_len xs ys]
  | [], m => by simp [zipD]
  | _ :: _, [] => by simp [zipD]
section
variable {X : Cx} {W : WX} {tg e a b : Expr} {pos p : Pos} {fd fd' : EnvD → Rs D}
theorem walkD_list {K : PySem.W.Frag} {mg : Str → Option Value} {F : Hp} {q : Addr} {vs : List V} {ds : List D} (h : SqL K F q vs) (r : Reps K mg F vs ds) : WalkD K mg (Itl K q) F ds where
  goes := fun i H hi e => by
    obtain ⟨v, h1, _⟩ := r.get (List.getElem?_eq_getElem hi)
    exact ⟨vs, v, e.sqL h, h1⟩
  stops := fun H e => ⟨vs, e.sqL h, by rw [r.length]; exact Nat.le_refl _⟩
  yields := fun i H x H' hi e y => by
    obtain ⟨d, h1, h2⟩ := r.getV (y.2 vs (e.sqL h))
    exact ⟨d, h1, .inl ⟨y.1, h2⟩⟩
theorem walkD_tup {K : PySem.W.Frag} {mg : Str → Option Value} {F : Hp} {q : Addr} {vs : List V} {ds : List D} (h : SqT K F q vs) (r : Reps K mg F vs ds) : WalkD K mg (Itt K q) F ds where
  goes := fun i H hi e => by
    obtain ⟨v, h1, _⟩ := r.get (List.getElem?_eq_getElem hi)
    exact ⟨vs, v, e.sqT h, h1⟩
  stops := fun H e => ⟨vs, e.sqT h, by rw [r.length]; exact Nat.le_refl _⟩
  yields := fun i H x H' hi e y => by
    obtain ⟨d, h1, h2⟩ := r.getV (y.2 vs (e.sqT h))
    exact ⟨d, h1, .inl ⟨y.1, h2⟩⟩
theorem piOr {wi wi' : TI} (h : PI X tg e wi) (h' : PI X tg e wi') : PI X tg e (fun σ H R => wi σ H R ∨ wi' σ H R) :=
  ⟨fun pins s σ H R I q => q.elim (h.run pins s σ H R I) (h'.run pins s σ H R I)⟩
theorem di_seq (h : DE X W e fd) : DI X W tg e (iSeq fd) := by
  have hp := h.can
  refine ⟨_, piOr (pi_list hp) (pi_tup hp), fun B F ρ σ H R S z => ?_⟩
  unfold iSeq at z
  cases q : fd ρ with
  | bad => rw [q] at z; exact z.elim
  | ex c fs ρ' =>
    rw [q] at z
    refine .inl ⟨B, F, ρ, S, ?_⟩
    rw [q]
    exact z
  | ok d ρ1 =>
    rw [q] at z
    obtain ⟨l, hl, z⟩ := z.opt
    cases d <;> first | (simp [itemsD] at hl; done) | skip
    · cases hl
      refine .inr ⟨B, F, ρ, S, ?_⟩
      rw [q]
      intro F1 H1 S1 e1 v r
      cases r with
      | tup h r => exact ⟨_, rfl, ⟨_, S1.ex.sqT h⟩, z F1 H1 S1 e1 _ (walkD_tup h r)⟩
    · cases hl
      refine .inl ⟨B, F, ρ, S, ?_⟩
      rw [q]
      intro F1 H1 S1 e1 v r
      cases r with
      | lst h r => exact ⟨_, rfl, ⟨_, S1.ex.sqL (SqL.of h)⟩, z F1 H1 S1 e1 _ (walkD_list (SqL.of h) r)⟩
    · cases hl
      refine .inl ⟨B, F, ρ, S, ?_⟩
      rw [q]
      intro F1 H1 S1 e1 v r
      cases r with
      | seq h r => exact ⟨_, rfl, ⟨_, S1.ex.sqL h⟩, z F1 H1 S1 e1 _ (walkD_list h r)⟩
theorem walkD_rng {K : PySem.W.Frag} {mg : Str → Option Value} {F : Hp} {lo hi : Int} : WalkD K mg (Itr lo (hi - lo).toNat) F (rngD lo hi) where
  goes := fun i H h e => by rw [rngD_len] at h; exact h
  stops := fun H e => by rw [rngD_len]; exact Nat.le_refl _
  yields := fun i H x H' h e y => by
    rw [rngD_len] at h
    refine ⟨_, rngD_get h, .inl ⟨y.1, ?_⟩⟩
    rw [y.2]
    exact .int _
theorem smallR_of {i : Int} (h : smallR i = true) : -(2 ^ 62) ≤ i ∧ i < 2 ^ 62 := by
  have e : (2 : Int) ^ 62 = 4611686018427387904 := by decide
  rw [e]
  cases i with
  | ofNat n =>
    have := Nat.le_of_ble_eq_true (show Nat.ble n 1000000 = true from h)
    constructor
    · show (-4611686018427387904 : Int) ≤ (n : Int)
      omega
    · show (n : Int) < 4611686018427387904
      omega
  | negSucc n =>
    have := Nat.le_of_ble_eq_true (show Nat.ble n 1000000 = true from h)
    rw [Int.negSucc_eq]
    omega
theorem di_range1 {pa : EnvD → Rs PD} (hg : Gl X "range") (hm : X.mg "range" = none) (h : OE X W a pa) (hs1 : starEach [a] X.env = (false, eval a X.env) :: starEach [] X.env := by rfl) (hs : starEach [a] X.env = [(false, eval a X.env)] := by rfl) : DI X W tg (.Call (.Name "range" p) [a] [] pos) (iRange1 pa) := by
  obtain ⟨_, h1, s1⟩ := h.ex
  refine ⟨_, pi_range1 hg hm (pa_cons h1 pa_nil hs1) hs, fun B F ρ σ H R S z => ?_⟩
  exact s1 B F ρ σ H _ S (EndG.cont z fun q ρ1 F1 H1 S1 e1 z1 v hv => by
    cases hq : q.get ρ1 with
    | none => rw [hq] at z1; exact z1.elim
    | some d =>
      rw [hq] at z1
      have hv := hv.get S1 hq
      cases d with
      | int j =>
        cases hv.int
        have z1 : EndG X.K X.mg B F1 σ W (fun ds _ F' H' => ∀ J, WalkD X.K X.mg J F' ds → R J H') (if smallR j = true then .ok (rngD 0 j) ρ1 else .bad) := z1
        split at z1
        · rename_i hs
          obtain ⟨g1, g2⟩ := smallR_of hs
          have w := walkD_rng (K := X.K) (mg := X.mg) (F := F1) (lo := 0) (hi := j)
          rw [Int.sub_zero] at w
          exact ⟨j, rfl, g1, g2, z1 F1 H1 S1 (Ex.refl F1) _ w⟩
        · exact z1.elim
      | _ => exact z1.elim)
theorem di_range2 {pa pb : EnvD → Rs PD} (hg : Gl X "range") (hm : X.mg "range" = none) (h : OE X W a pa) (h' : OE X W b pb) (hs1 : starEach [b] X.env = (false, eval b X.env) :: starEach [] X.env := by rfl) (hs2 : starEach [a, b] X.env = (false, eval a X.env) :: starEach [b] X.env := by rfl)
    (hs : starEach [a, b] X.env = [(false, eval a X.env), (false, eval b X.env)] := by rfl) (hs3 : starEach [b] X.env = [(false, eval b X.env)] := by rfl) : DI X W tg (.Call (.Name "range" p) [a, b] [] pos) (iRange2 pa pb) := by
  obtain ⟨_, h1, s1⟩ := h.ex
  obtain ⟨_, h2, s2⟩ := h'.ex
  refine ⟨_, pi_range2 hg hm (pa_cons h1 (pa_cons h2 pa_nil hs1) hs2) hs hs3, fun B F ρ σ H R S z => ?_⟩
  exact s1 B F ρ σ H _ S (EndG.cont z fun q ρ1 F1 H1 S1 e1 z1 v hv =>
    s2 B F1 ρ1 σ H1 _ S1 (EndG.cont z1 fun q' ρ2 F2 H2 S2 e2 z2 u hu => by
      cases hq : q.get ρ2 with
      | none => rw [hq] at z2; exact z2.elim
      | some d =>
        cases hq' : q'.get ρ2 with
        | none =>
          rw [hq, hq'] at z2
          cases d <;> exact z2.elim
        | some d' =>
          rw [hq, hq'] at z2
          have hv := (hv.ext e2).get S2 hq
          have hu := hu.get S2 hq'
          cases d with
          | int i =>
            cases d' with
            | int j =>
              cases hv.int
              cases hu.int
              have z2 : EndG X.K X.mg B F2 σ W (fun ds _ F' H' => ∀ J, WalkD X.K X.mg J F' ds → R J H') (if (smallR i && smallR j) = true then .ok (rngD i j) ρ2 else .bad) := z2
              split at z2
              · rename_i hs
                obtain ⟨hs1, hs2⟩ := Bool.and_eq_true_iff.mp hs
                obtain ⟨g1, g2⟩ := smallR_of hs1
                obtain ⟨g3, g4⟩ := smallR_of hs2
                exact ⟨i, j, rfl, ⟨g1, g2, g3, g4⟩, z2 F2 H2 S2 (Ex.refl F2) _ walkD_rng⟩
              · exact z2.elim
            | _ => exact z2.elim
          | _ => exact z2.elim))
theorem walkD_enum {K : PySem.W.Frag} {mg : Str → Option Value} {F : Hp} {q : Addr} {vs : List V} {ds : List D} (h : SqL K F q vs) (r : Reps K mg F vs ds) : WalkD K mg (Ite K q) F (enumD 0 ds) where
  goes := fun i H hi e => by
    rw [enumD_len] at hi
    exact (walk_enum (K := K) (a := q) (xs := vs)).goes i H (by rw [r.length]; exact hi) (e.sqL h)
  stops := fun H e => by
    rw [enumD_len, ← r.length]
    exact (walk_enum (K := K) (a := q) (xs := vs)).stops H (e.sqL h)
  yields := fun i H x H' hi e y => by
    rw [enumD_len] at hi
    obtain ⟨T, x1, x2, g1, g2, g3, g4, g5⟩ := (walk_enum (K := K) (a := q) (xs := vs)).yields i H x H' (by rw [r.length]; exact hi) (e.sqL h) y
    obtain ⟨d, h1, h2⟩ := r.getV g5
    cases g4
    refine ⟨_, by rw [enumD_get, h1, Nat.zero_add]; rfl, .inr ⟨T, _, [.int (i : Nat), d], g1, g2, g3, rfl, .cons (.int _) (.cons h2 .nil)⟩⟩
theorem di_enum {elts : List Expr} {kk : Nat} {tpos : Pos} (hg : Gl X "enumerate") (hm : X.mg "enumerate" = none) (h : DE X W e fd) (hs1 : starEach [e] X.env = (false, eval e X.env) :: starEach [] X.env := by rfl) (hs : starEach [e] X.env = [(false, eval e X.env)] := by rfl) : DI X W (.Tuple elts kk tpos) (.Call (.Name "enumerate" p) [e] [] pos) (iEnum fd) := by
  obtain ⟨_, h1, s1⟩ := h.ex
  refine ⟨_, pi_enum hg hm (pa_cons h1 pa_nil hs1) hs, fun B F ρ σ H R S z => ?_⟩
  exact s1 B F ρ σ H _ S (EndG.cont z fun d ρ1 F1 H1 S1 e1 z1 v r => by
    cases d with
    | lst l =>
      cases r with
      | lst h r => exact ⟨_, _, rfl, SqL.of ((S1.ex _ _ h).plain rfl), z1 F1 H1 S1 (Ex.refl F1) _ (walkD_enum (SqL.of h) r)⟩
    | seq l =>
      cases r with
      | seq h r => exact ⟨_, _, rfl, S1.ex.sqL h, z1 F1 H1 S1 (Ex.refl F1) _ (walkD_enum h r)⟩
    | _ => exact z1.elim)
theorem walkD_zip {K : PySem.W.Frag} {mg : Str → Option Value} {F : Hp} {q q' : Addr} {vs ws : List V} {ds es : List D} (h : SqL K F q vs) (r : Reps K mg F vs ds) (h' : SqL K F q' ws) (r' : Reps K mg F ws es) : WalkD K mg (Itz K q q') F (zipD ds es) := by
  have W := walk_zip (K := K) (a := q) (b := q') (xs := vs) (ys := ws) (n := (zipD ds es).length) (by rw [zipD_len, r.length, r'.length])
  exact ⟨fun i H hi e => W.goes i H hi ⟨e.sqL h, e.sqL h'⟩, fun H e => W.stops H ⟨e.sqL h, e.sqL h'⟩, fun i H x H' hi e y => by
    obtain ⟨T, x1, x2, g1, g2, g3, g4, g5⟩ := W.yields i H x H' hi ⟨e.sqL h, e.sqL h'⟩ y
    obtain ⟨d, h1, h2⟩ := r.getV g4
    obtain ⟨d', h3, h4⟩ := r'.getV g5
    exact ⟨_, zipD_get _ _ _ _ _ h1 h3, .inr ⟨T, _, [d, d'], g1, g2, g3, rfl, .cons h2 (.cons h4 .nil)⟩⟩⟩
theorem walkD_zipT {K : PySem.W.Frag} {mg : Str → Option Value} {F : Hp} {q q' : Addr} {vs ws : List V} {ds es : List D} (h : SqT K F q vs) (r : Reps K mg F vs ds) (h' : SqT K F q' ws) (r' : Reps K mg F ws es) : WalkD K mg (RZ.ItzT K q q') F (zipD ds es) where
  goes := fun i H hi e => by
    rw [zipD_len] at hi
    have h1 : i < vs.length := by rw [r.length]; omega
    have h2 : i < ws.length := by rw [r'.length]; omega
    exact ⟨vs, ws, vs[i], ws[i], e.sqT h, e.sqT h', by simp [h1], by simp [h2]⟩
  stops := fun H e => ⟨vs, ws, e.sqT h, e.sqT h', by rw [zipD_len, r.length, r'.length]; omega⟩
  yields := fun i H x H' hi e y => by
    obtain ⟨T, x1, x2, g1, g2, g3, g4, g5⟩ := y
    obtain ⟨d, h1, h2⟩ := r.getV (g4 vs (e.sqT h))
    obtain ⟨d', h3, h4⟩ := r'.getV (g5 ws (e.sqT h'))
    exact ⟨_, zipD_get _ _ _ _ _ h1 h3, .inr ⟨T, _, [d, d'], g1, g2, g3, rfl, .cons h2 (.cons h4 .nil)⟩⟩
theorem di_zip {elts : List Expr} {kk : Nat} {tpos : Pos} (hg : Gl X "zip") (hm : X.mg "zip" = none) (h : DE X W a fd) (h' : DE X W b fd') (hs1 : starEach [b] X.env = (false, eval b X.env) :: starEach [] X.env := by rfl)
    (hs : starEach [a, b] X.env = (false, eval a X.env) :: starEach [b] X.env := by rfl) (hpl : (backTo pos (starEach [b] X.env)).any (·.1) = false := by rfl) : DI X W (.Tuple elts kk tpos) (.Call (.Name "zip" p) [a, b] [] pos) (iZip fd fd') := by
  obtain ⟨_, h1, s1⟩ := h.ex
  obtain ⟨_, h2, s2⟩ := h'.ex
  refine ⟨_, RZ.pi_zipA hg hm (pa_cons h1 (pa_cons h2 pa_nil hs1) hs) hs hpl, fun B F ρ σ H R S z => ?_⟩
  exact s1 B F ρ σ H _ S (EndG.cont z fun d ρ1 F1 H1 S1 e1 z1 v r =>
    s2 B F1 ρ1 σ H1 _ S1 (EndG.cont z1 fun d' ρ2 F2 H2 S2 e2 z2 u r' => by
      have r := r.ext e2
      cases d with
      | lst l =>
        cases d' with
        | lst m =>
          cases r with
          | lst h r =>
            cases r' with
            | lst h' r' => exact ⟨_, _, _, _, rfl, .inl ⟨SqL.of ((S2.ex _ _ h).plain rfl), SqL.of ((S2.ex _ _ h').plain rfl), z2 F2 H2 S2 (Ex.refl F2) _ (walkD_zip (SqL.of h) r (SqL.of h') r')⟩⟩
        | _ => exact z2.elim
      | tup l =>
        cases d' with
        | tup m =>
          cases r with
          | tup h r =>
            cases r' with
            | tup h' r' => exact ⟨_, _, _, _, rfl, .inr ⟨S2.ex.sqT h, S2.ex.sqT h', z2 F2 H2 S2 (Ex.refl F2) _ (walkD_zipT h r h' r')⟩⟩
        | _ => exact z2.elim
      | _ => exact z2.elim))
end

/-! ### for -/
def forL (g : D → EnvD → Option EnvD) (body : EnvD → RS) : List D → EnvD → RS
  | [], ρ => .nx ρ
  | d :: ds, ρ => match g d ρ with
    | none => .bad
    | some ρ1 => match body ρ1 with
      | .nx ρ2 => forL g body ds ρ2
      | .ct ρ2 => forL g body ds ρ2
      | .bk ρ2 => .nx ρ2
      | .rt d ρ2 => .rt d ρ2
      | .rn co ρ2 => .rn co ρ2
      | .ex c fs ρ2 => .ex c fs ρ2
      | .bad => .bad
def sFor (f : EnvD → Rs (List D)) (g : D → EnvD → Option EnvD) (body : EnvD → RS) : EnvD → RS := fun ρ => (f ρ).bindS fun ds ρ1 => forL g body ds ρ1
theorem drop_cons {α : Type} {l : List α} {i : Nat} {x : α} (h : l[i]? = some x) : l.drop i = x :: l.drop (i + 1) := by
  obtain ⟨h1, h2⟩ := List.getElem?_eq_some_iff.mp h
  rw [← h2, List.drop_eq_getElem_cons h1]
section
variable {X : Cx} {W : WX} {tg iter : Expr} {body : List Stmt} {pos : Pos}
theorem for_snd {wi : TI} {t : TG} {tb : TS} {fi : EnvD → Rs (List D)} {vs : List Nat} {g : D → EnvD → Option EnvD} {fb : EnvD → RS} (si : ISnd X W wi fi) (sg : GSnd X.K X.mg t vs g) (sb : SSnd X W tb fb) : SSnd X W (tFor wi t tb) (sFor fi g fb) := fun B F ρ σ H Dn S z =>
  si B F ρ σ H _ S (EndS.cont z fun ds ρ1 F1 H1 S1 e1 z1 J w => by
    refine ⟨fun i m σ2 H2 => m = ds.length - i ∧ i ≤ ds.length ∧ ∃ ρ2 F2, StR X.K X.mg B F2 ρ2 σ2 H2 ∧ Ex F1 F2 ∧ EndS X.K X.mg B F2 W Dn (forL g fb (ds.drop i) ρ2), ⟨ds.length, rfl, Nat.zero_le _, ρ1, F1, S1, Ex.refl F1, z1⟩, ?_⟩
    rintro i m σ2 H2 ⟨rfl, hi, ρ2, F2, S2, e2, z2⟩
    by_cases hlt : i < ds.length
    · refine .inr ⟨w.goes i H2 hlt (e2.exD S2.ex), fun σ3 H3 => ∃ ρ3 F3, StR X.K X.mg B F3 ρ3 σ3 H3 ∧ Ex F1 F3 ∧ EndS X.K X.mg B F3 W Dn (forL g fb (ds.drop (i + 1)) ρ3), fun σ3 H3 ⟨ρ3, F3, S3, e3, z3⟩ => ⟨ds.length - (i + 1), by omega, rfl, hlt, ρ3, F3, S3, e3, z3⟩, fun x H3 y => ?_⟩
      obtain ⟨d, F3, hd, e3, S3, r3, _⟩ := w.step S2 e2 hlt y
      rw [drop_cons hd] at z2
      unfold forL at z2
      cases q : g d ρ2 with
      | none => rw [q] at z2; exact z2.elim
      | some ρ3 =>
        rw [q] at z2
        refine sg B F3 ρ2 σ2 H3 x d ρ3 _ S3 r3 q fun σ4 S4 t4 => ?_
        refine sb B F3 ρ3 σ4 H3 _ S4 ?_
        have z2 := EndS.ext e3 z2
        cases q2 : fb ρ3 with
        | nx ρ4 => simp only [q2] at z2; exact fun σ5 F5 H5 S5 e5 => ⟨ρ4, F5, S5, (e2.trans e3).trans e5, EndS.ext e5 z2⟩
        | ct ρ4 => simp only [q2] at z2; exact fun σ5 F5 H5 S5 e5 => ⟨ρ4, F5, S5, (e2.trans e3).trans e5, EndS.ext e5 z2⟩
        | bk ρ4 => simp only [q2] at z2; exact z2
        | rt d' ρ4 => simp only [q2] at z2; exact z2
        | rn co ρ4 => simp only [q2] at z2; exact z2
        | ex c fs ρ4 => simp only [q2] at z2; exact z2
        | bad => simp only [q2] at z2; exact z2
    · have hn : i = ds.length := by omega
      subst hn
      rw [List.drop_length] at z2
      exact .inl ⟨w.stops H2 (e2.exD S2.ex), z2 σ2 F2 H2 S2 (Ex.refl F2)⟩)
theorem ds_for {fi : EnvD → Rs (List D)} {vs : List Nat} {g : D → EnvD → Option EnvD} {fb : EnvD → RS} (hp : PassesOwn (model X.prog X.w) X.A X.env X.xe) (hc : X.calm = true) (hi : DI X W tg iter fi) (hg : DG X tg vs g) (hb : DSs X W body fb)
    (hs : ∀ x, foldedSetIterable iter X.env x = pure x := by intro _; rfl) : DS X W (.For tg iter body [] pos) (sFor fi g fb) :=
  let ⟨_, h1, s1⟩ := hi.ex; let ⟨_, h2, s2⟩ := hg.ex; let ⟨_, h3, s3⟩ := hb.ex; ⟨_, ps_for hp hc h1 h2 h3 hs, for_snd s1 s2 s3⟩
/-! ### while -/
def whileL (c : EnvD → Rs Bool) (body : EnvD → RS) : Nat → EnvD → RS
  | 0, _ => .bad
  | n + 1, ρ => (c ρ).bindS fun k ρ1 => if k = true then match body ρ1 with
      | .nx ρ2 => whileL c body n ρ2
      | .ct ρ2 => whileL c body n ρ2
      | .bk ρ2 => .nx ρ2
      | .rt d ρ2 => .rt d ρ2
      | .rn co ρ2 => .rn co ρ2
      | .ex c fs ρ2 => .ex c fs ρ2
      | .bad => .bad
    else .nx ρ1
theorem while_snd {tc : TT} {tb : TS} {fc : EnvD → Rs Bool} {fb : EnvD → RS} (sc : TSnd X W tc fc) (sb : SSnd X W tb fb) (n : Nat) : SSnd X W (tWhile tc tb) (whileL fc fb n) := fun B F ρ σ H Dn S z => by
  refine ⟨fun m σ2 H2 => ∃ ρ2 F2, StR X.K X.mg B F2 ρ2 σ2 H2 ∧ EndS X.K X.mg B F2 W Dn (whileL fc fb m ρ2), ⟨n, ρ, F, S, z⟩, ?_⟩
  rintro m σ2 H2 ⟨ρ2, F2, S2, z2⟩
  cases m with
  | zero => exact z2.elim
  | succ m =>
    refine sc B F2 ρ2 σ2 H2 _ S2 (EndS.cont z2 fun k ρ3 F3 H3 S3 e3 z3 => ?_)
    cases k with
    | false => exact z3 σ2 F3 H3 S3 (Ex.refl F3)
    | true =>
      refine ⟨fun σ4 H4 => ∃ ρ4 F4, StR X.K X.mg B F4 ρ4 σ4 H4 ∧ EndS X.K X.mg B F4 W Dn (whileL fc fb m ρ4), fun σ4 H4 h => ⟨m, Nat.lt_succ_self m, h⟩, ?_⟩
      refine sb B F3 ρ3 σ2 H3 _ S3 ?_
      have z3 : EndS X.K X.mg B F3 W Dn (match fb ρ3 with
        | .nx ρ2 => whileL fc fb m ρ2
        | .ct ρ2 => whileL fc fb m ρ2
        | .bk ρ2 => .nx ρ2
        | .rt d ρ2 => .rt d ρ2
        | .rn co ρ2 => .rn co ρ2
        | .ex c fs ρ2 => .ex c fs ρ2
        | .bad => .bad) := z3
      cases q2 : fb ρ3 with
      | nx ρ4 => rw [q2] at z3; exact fun σ5 F5 H5 S5 e5 => ⟨ρ4, F5, S5, EndS.ext e5 z3⟩
      | ct ρ4 => rw [q2] at z3; exact fun σ5 F5 H5 S5 e5 => ⟨ρ4, F5, S5, EndS.ext e5 z3⟩
      | bk ρ4 => rw [q2] at z3; exact z3
      | rt d' ρ4 => rw [q2] at z3; exact z3
      | rn co ρ4 => rw [q2] at z3; exact z3
      | ex c fs ρ4 => rw [q2] at z3; exact z3
      | bad => rw [q2] at z3; exact z3
theorem ds_while {c : Expr} {fc : EnvD → Rs Bool} {fb : EnvD → RS} (n : Nat) (hp : PassesOwn (model X.prog X.w) X.A X.env X.xe) (hc : DT X W c fc) (hb : DSs X W body fb) : DS X W (.While c body [] pos) (whileL fc fb n) :=
  let ⟨_, h1, s1⟩ := hc.ex; let ⟨_, h3, s3⟩ := hb.ex; ⟨_, ps_while hp h1 h3, while_snd s1 s3 n⟩
end

/-! ### a new object held aside while something else runs -/
def Bs.hold (B : Bs) (a : Addr) (o : HO) : Bs := { B with H0 := upd B.H0 a o }
section
variable {K : PySem.W.Frag} {mg : Str → Option Value} {B : Bs} {F : Hp} {σ : L2.St} {ρ : EnvD} {H : Hp} {a : Addr} {o : HO}
theorem StR.hold (S : StR K mg B F ρ σ H) (h : H a = some o) (hF : F a = none) (h0 : B.H0 a = none) (hC : ∀ i, ¬ CellAt ρ σ i a) : StR K mg (B.hold a o) F ρ σ H where
  ex := S.ex
  ex0 := S.ex0
  len := S.len
  slot := S.slot
  apart := S.apart
  fresh := fun b q1 q2 => by
    show upd B.H0 a o b = none
    have c : b ≠ a := fun z => by subst z; exact q2 hF
    rw [upd_ne c]
    exact S.fresh b q1 q2
  frame := fun b u q n => by
    have q : upd B.H0 a o b = some u := q
    by_cases c : b = a
    · subst c
      rw [upd_same] at q
      cases q
      exact .inl h
    · rw [upd_ne c] at q
      exact S.frame b u q n
  own := fun i b co q1 q2 => by
    show upd B.H0 a o b = none
    have c : b ≠ a := fun z => by subst z; exact hC i ⟨⟨_, co, q1, rfl⟩, q2⟩
    rw [upd_ne c]
    exact S.own i b co q1 q2
  par := S.par
  pars := S.pars
  parF := fun i b q => by
    obtain ⟨h1, h2, h3, h4⟩ := S.parF i b q
    refine ⟨h1, h2, ?_, h4⟩
    show upd B.H0 a o b ≠ none
    have c : b ≠ a := fun z => by subst z; exact h3 h0
    rw [upd_ne c]
    exact h3
theorem StR.unhold (S : StR K mg (B.hold a o) F ρ σ H) (h0 : B.H0 a = none) (hd : isDc o = false) (hp : ∀ i b, B.C0 i = some b → B.H0 b ≠ none) (hF0 : B.F0 a = none) : StR K mg B F ρ σ H ∧ H a = some o ∧ F a = none ∧ ∀ i, ¬ CellAt ρ σ i a := by
  have hC0 : ∀ i, B.C0 i ≠ some a := fun i z => hp i a z h0
  have hat : H a = some o := by
    rcases S.frame a o upd_same hC0 with z | ⟨_, z, _⟩
    · exact z
    · rw [hd] at z; cases z
  have hF : F a = none := by
    cases q : F a with
    | none => rfl
    | some u =>
      have z := S.fresh a hF0 (by rw [q]; simp)
      have z : upd B.H0 a o a = none := z
      rw [upd_same] at z
      cases z
  refine ⟨⟨S.ex, S.ex0, S.len, S.slot, S.apart, fun b q1 q2 => ?_, fun b u q n => ?_, fun i b co q1 q2 => ?_, S.par, S.pars, fun i b q => ?_⟩, hat, hF, fun i ⟨⟨s, co, q, hc⟩, q2⟩ => ?_⟩
  · have z : upd B.H0 a o b = none := S.fresh b q1 q2
    by_cases c : b = a
    · subst c; exact h0
    · rw [upd_ne c] at z; exact z
  · have c : b ≠ a := fun z => by subst z; rw [h0] at q; cases q
    exact S.frame b u (show upd B.H0 a o b = some u by rw [upd_ne c]; exact q) n
  · have z : upd B.H0 a o b = none := S.own i b co q1 q2
    by_cases c : b = a
    · subst c; exact h0
    · rw [upd_ne c] at z; exact z
  · obtain ⟨h1, h2, h3, h4⟩ := S.parF i b q
    exact ⟨h1, h2, hp i b q, h4⟩
  · cases s with
    | no => simp [isCell] at hc
    | t d => simp [isCell] at hc
    | c co' =>
      have z : upd B.H0 a o a = none := S.own i a co' q q2
      rw [upd_same] at z
      cases z
    | p co' =>
      obtain ⟨a', g1, g2⟩ := S.par i co' q
      rw [q2] at g1
      cases g1
      exact hC0 i g2
end

/-! ### comprehensions -/
def wipeD (ρ : EnvD) : List Nat → EnvD
  | [] => ρ
  | v :: vs => (wipeD ρ vs).set v .no
def keepT : SV → SV
  | .t d => .t d
  | _ => .no
/-- behind a block: its own names as before, the others as the block left them -/
def unwipe (ρ ρ' : EnvD) : List Nat → EnvD
  | [] => ρ'
  | v :: vs => (unwipe ρ ρ' vs).set v (keepT (ρ.getD v .no))
theorem wipeD_length (ρ : EnvD) : ∀ vs : List Nat, (wipeD ρ vs).length = ρ.length
  | [] => rfl
  | v :: vs => by rw [wipeD, List.length_set, wipeD_length ρ vs]
theorem unwipe_length (ρ ρ' : EnvD) : ∀ vs : List Nat, (unwipe ρ ρ' vs).length = ρ'.length
  | [] => rfl
  | v :: vs => by rw [unwipe, List.length_set, unwipe_length ρ ρ' vs]
theorem wipeD_get (ρ : EnvD) {j : Nat} {s : SV} : ∀ {vs : List Nat}, (wipeD ρ vs)[j]? = some s → s = .no ∨ (j ∉ vs ∧ ρ[j]? = some s)
  | [], h => .inr ⟨by simp, h⟩
  | v :: vs, h => by
    rw [wipeD] at h
    rcases getset h with ⟨_, rfl, _⟩ | ⟨c, h⟩
    · exact .inl rfl
    · rcases wipeD_get ρ (vs := vs) h with z | ⟨z1, z2⟩
      · exact .inl z
      · exact .inr ⟨fun hm => (List.mem_cons.mp hm).elim c z1, z2⟩
theorem unwipe_get (ρ ρ' : EnvD) {j : Nat} {s : SV} : ∀ {vs : List Nat}, (unwipe ρ ρ' vs)[j]? = some s → (j ∈ vs ∧ s = keepT (ρ.getD j .no)) ∨ (j ∉ vs ∧ ρ'[j]? = some s)
  | [], h => .inr ⟨by simp, h⟩
  | v :: vs, h => by
    rw [unwipe] at h
    rcases getset h with ⟨rfl, rfl, _⟩ | ⟨c, h⟩
    · exact .inl ⟨by simp, rfl⟩
    · rcases unwipe_get ρ ρ' (vs := vs) h with ⟨z1, z2⟩ | ⟨z1, z2⟩
      · exact .inl ⟨List.mem_cons_of_mem _ z1, z2⟩
      · exact .inr ⟨fun hm => (List.mem_cons.mp hm).elim c z1, z2⟩
def noEx {α : Type} (r : Rs α) : Rs α := match r with
  | .ok a ρ => .ok a ρ
  | _ => .bad
@[simp] theorem noEx_ok {α : Type} {a : α} {ρ : EnvD} : noEx (.ok a ρ) = .ok a ρ := rfl
@[simp] theorem noEx_bad {α : Type} : noEx (.bad : Rs α) = .bad := rfl
@[simp] theorem noEx_ex {α : Type} {c : Str} {fs : List (Str × D)} {ρ : EnvD} : noEx (.ex c fs ρ : Rs α) = .bad := rfl
def compL (g : D → EnvD → Option EnvD) (test : EnvD → Rs Bool) (elt : EnvD → Rs D) (vs : List Nat) : List D → EnvD → Rs (List D)
  | [], ρ => .ok [] ρ
  | d :: ds, ρ => (optR (g d ρ) ρ).bind fun ρ1 _ => (noEx (test ρ1)).bind fun b ρ2 => if b = true then (noEx (elt ρ2)).bind fun e ρ3 => (compL g test elt vs ds (wipeD ρ3 vs)).bind fun r ρ4 => .ok (e :: r) ρ4
    else compL g test elt vs ds (wipeD ρ2 vs)
def nComp (f : EnvD → Rs (List D)) (g : D → EnvD → Option EnvD) (test : EnvD → Rs Bool) (elt : EnvD → Rs D) (vs : List Nat) : EnvD → Rs CO := fun ρ => (f ρ).bind fun ds ρ1 => if ds.length ≤ 100000 then (compL g test elt vs ds (wipeD ρ1 vs)).bind fun r ρ2 => .ok (.lst r) (unwipe ρ1 ρ2 vs) else .bad
def tYesB : EnvD → Rs Bool := fun ρ => .ok true ρ
abbrev W0 : WX := fun _ _ _ _ => False
section
variable {K : PySem.W.Frag} {mg : Str → Option Value} {B : Bs} {F : Hp} {σ : L2.St} {ρ : EnvD} {H : Hp}
theorem StR.wipe (S : StR K mg B F ρ σ H) (vs : List Nat) : StR K mg B F (wipeD ρ vs) (L2.wipe σ vs) H :=
  S.forget (by rw [wipeD_length, wipe_length]; exact S.len) fun i s h => by
    rcases wipeD_get ρ h with z | ⟨z1, z2⟩
    · exact .inl z
    · exact .inr ⟨z2, by rw [wipe_get, if_neg z1]⟩
theorem StR.unwipe {F1 : Hp} {H1 : Hp} {ρ' : EnvD} {vs : List Nat} (S : StR K mg B F ρ σ H) (e : Ex F F1) (S1 : StR K mg B F1 ρ' (L2.wipe σ vs) H1) : StR K mg B F1 (DL.unwipe ρ ρ' vs) σ H1 := by
  have back : ∀ {j : Nat} {b : Addr}, CellAt (DL.unwipe ρ ρ' vs) σ j b → CellAt ρ' (L2.wipe σ vs) j b := fun {j b} ⟨⟨s, co, q, hc⟩, q2⟩ => by
    rcases unwipe_get ρ ρ' q with ⟨_, z⟩ | ⟨z1, z2⟩
    · subst z
      cases h : ρ.getD j .no <;> rw [h] at hc <;> simp [keepT, isCell] at hc
    · exact ⟨⟨s, co, z2, hc⟩, by rw [wipe_get, if_neg z1]; exact q2⟩
  have plain : ∀ {j : Nat} {s : SV}, (DL.unwipe ρ ρ' vs)[j]? = some s → (∀ d, s ≠ .t d) → s ≠ .no → ρ'[j]? = some s ∧ j ∉ vs := fun {j s} q nt nn => by
    rcases unwipe_get ρ ρ' q with ⟨_, z⟩ | ⟨z1, z2⟩
    · cases h : ρ.getD j .no <;> rw [h] at z <;> simp [keepT] at z
      · exact absurd z nn
      · exact absurd z (nt _)
      · exact absurd z nn
      · exact absurd z nn
    · exact ⟨z2, z1⟩
  refine ⟨S1.ex, S1.ex0, by rw [unwipe_length]; have := S1.len; rw [wipe_length] at this; exact this, fun j s q => ?_, fun i j b hi hj => S1.apart i j b (back hi) (back hj), S1.fresh, S1.frame, fun j b co q1 q2 => ?_, fun j co q => ?_, S1.pars, S1.parF⟩
  · rcases unwipe_get ρ ρ' q with ⟨_, z⟩ | ⟨z1, z2⟩
    · cases h : ρ.getD j .no with
      | t d =>
        rw [h] at z
        subst z
        have hj : ρ[j]? = some (.t d) := by
          cases q3 : ρ[j]? with
          | none => rw [List.getD_eq_getElem?_getD, q3] at h; cases h
          | some s' => rw [List.getD_eq_getElem?_getD, q3] at h; exact congrArg some h
        obtain ⟨v, h1, h2⟩ := S.slot j _ hj
        exact ⟨v, h1, h2.ext e⟩
      | no => rw [h] at z; subst z; trivial
      | c co => rw [h] at z; subst z; trivial
      | p co => rw [h] at z; subst z; trivial
    · have w := S1.slot j s z2
      rw [wipe_get, if_neg z1] at w
      exact w
  · obtain ⟨z2, z1⟩ := plain q1 (fun d z => by cases z) (fun z => by cases z)
    exact S1.own j b co z2 (by rw [wipe_get, if_neg z1]; exact q2)
  · obtain ⟨z2, z1⟩ := plain q (fun d z => by cases z) (fun z => by cases z)
    have w := S1.par j co z2
    rw [wipe_get, if_neg z1] at w
    exact w
theorem EndG.noEx {W W' : WX} {α : Type} {P P' : α → EnvD → Hp → Hp → Prop} {r : Rs α} (h : EndG K mg B F σ W P (noEx r)) (k : ∀ a ρ F' H', P a ρ F' H' → P' a ρ F' H') : EndG K mg B F σ W' P' r := by
  cases r with
  | ok a ρ => exact fun F' H' S e => k a ρ F' H' (h F' H' S e)
  | ex c fs ρ => exact h.elim
  | bad => exact h.elim
end
section
variable {X : Cx} {W : WX} {tg iter elt : Expr} {ifs : List Expr} {scope : Scope} {own : List (Str × Nat)} {pos : Pos}
theorem compL_noex {g : D → EnvD → Option EnvD} {ft : EnvD → Rs Bool} {fe : EnvD → Rs D} {vs : List Nat} {c : Str} {fs : List (Str × D)} {ρ' : EnvD} : ∀ (l : List D) (r : EnvD), compL g ft fe vs l r ≠ .ex c fs ρ' := by
  intro l
  induction l with
  | nil => intro r h; cases h
  | cons d l ih =>
    intro r h
    unfold compL at h
    cases q1 : g d r with
    | none => rw [q1] at h; cases h
    | some r1 =>
      rw [q1] at h
      simp only [optR_some, Rs.bind_ok] at h
      cases q2 : ft r1 with
      | bad => rw [q2] at h; cases h
      | ex _ _ _ => rw [q2] at h; cases h
      | ok b r2 =>
        rw [q2] at h
        simp only [noEx_ok, Rs.bind_ok] at h
        cases b with
        | false => exact ih _ h
        | true =>
          rw [if_pos rfl] at h
          cases q3 : fe r2 with
          | bad => rw [q3] at h; cases h
          | ex _ _ _ => rw [q3] at h; cases h
          | ok e r3 =>
            rw [q3] at h
            simp only [noEx_ok, Rs.bind_ok] at h
            cases q4 : compL g ft fe vs l (wipeD r3 vs) with
            | bad => rw [q4] at h; cases h
            | ok a b => rw [q4] at h; cases h
            | ex c' fs' r' =>
              rw [q4] at h
              simp only [Rs.bind_ex] at h
              cases h
              exact ih _ q4
theorem StR.retell {K : PySem.W.Frag} {mg : Str → Option Value} {B : Bs} {F : Hp} {σ : L2.St} {ρ : EnvD} {H : Hp} (S : StR K mg B F ρ σ H) {A : Addr} (h0 : B.H0 A = none) (hF : F A = none) (hC : ∀ i, ¬ CellAt ρ σ i A) (o : HO) : StR K mg B F ρ σ (upd H A o) := by
  have ne : ∀ b, b ≠ A → upd H A o b = H b := fun b c => upd_ne c
  refine ⟨fun b u q => ?_, S.ex0, S.len, fun i s q => ?_, S.apart, S.fresh, fun b u q n => ?_, S.own, S.par, S.pars, fun i b q => ?_⟩
  · have c : b ≠ A := fun z => by subst z; rw [hF] at q; cases q
    rcases S.ex b u q with z | ⟨z, ob, y⟩
    · exact .inl (by rw [ne b c]; exact z)
    · exact .inr ⟨z, ob, by rw [ne b c]; exact y⟩
  · have zz := S.slot i s q
    cases s with
    | no => trivial
    | t d => exact zz
    | c co =>
      obtain ⟨b, u, g1, g2, g3⟩ := zz
      have c : b ≠ A := fun z => hC i ⟨⟨_, co, q, rfl⟩, by rw [g1, z]⟩
      exact ⟨b, u, g1, by rw [ne b c]; exact g2, g3⟩
    | p co =>
      obtain ⟨b, u, g1, g2, g3⟩ := zz
      have c : b ≠ A := fun z => hC i ⟨⟨_, co, q, rfl⟩, by rw [g1, z]⟩
      exact ⟨b, u, g1, by rw [ne b c]; exact g2, g3⟩
  · have c : b ≠ A := fun z => by subst z; rw [h0] at q; cases q
    rw [ne b c]
    exact S.frame b u q n
  · obtain ⟨g1, g2, g3, g4⟩ := S.parF i b q
    have c : b ≠ A := fun z => by subst z; exact g3 h0
    exact ⟨g1, g2, g3, by rw [ne b c]; exact g4⟩
theorem wipe_wipe (σ : L2.St) (vs : List Nat) : L2.wipe (L2.wipe σ vs) vs = L2.wipe σ vs := by
  apply List.ext_getElem?
  intro j
  rw [wipe_get, wipe_get, wipe_length]
  by_cases c : j ∈ vs
  · rw [if_pos c, if_pos c]
  · rw [if_neg c, if_neg c]
theorem wipe_noCell {ρ : EnvD} {σ : L2.St} {vs : List Nat} {A : Addr} (h : ∀ i, ¬ CellAt ρ σ i A) : ∀ i, ¬ CellAt (wipeD ρ vs) (L2.wipe σ vs) i A := fun i ⟨⟨s, co, q1, hc⟩, q2⟩ => by
  rcases wipeD_get ρ q1 with z | ⟨z1, z2⟩
  · subst z; simp [isCell] at hc
  · exact h i ⟨⟨s, co, z2, hc⟩, by rw [wipe_get, if_neg z1] at q2; exact q2⟩
theorem lc_snd {wi : TI} {t : TG} {vs : List Nat} {fi : EnvD → Rs (List D)} {g : D → EnvD → Option EnvD} {ft : EnvD → Rs Bool} {fe : EnvD → Rs D} {tt : TT} {te : TE} (si : ISnd X W wi fi) (sg : GSnd X.K X.mg t vs g) (st : TSnd X W0 tt ft) (se : DSnd X W0 te fe) :
    NSnd X W (tLc wi t tt te vs) (nComp fi g ft fe vs) := fun B F ρ σ H Q S z =>
  si B F ρ σ H _ S (EndG.cont z fun ds ρ1 F1 H1 S1 e1 z1 J w => by
    split at z1
    · rename_i hds
      intro A hA
      have h0 : B.H0 A = none := S1.new0 hA
      have hF1 : F1 A = none := S1.ex.none hA
      have hp : ∀ i b, B.C0 i = some b → B.H0 b ≠ none := fun i b q => (S1.parF i b q).2.2.1
      have hF0 : B.F0 A = none := by
        cases q : B.F0 A with
        | none => rfl
        | some u => rw [S1.ex0 A u q] at hF1; cases hF1
      have Sw := S1.wipe vs
      refine ⟨fun i m H2 => m = ds.length - i ∧ i ≤ ds.length ∧ ∃ ρ2 F2 ws acc, StR X.K X.mg B F2 ρ2 (L2.wipe σ vs) H2 ∧ Ex F1 F2 ∧ H2 A = some (.lst ws) ∧ Reps X.K X.mg F2 ws acc ∧ acc.length ≤ i ∧ F2 A = none ∧ (∀ i, ¬ CellAt ρ2 (L2.wipe σ vs) i A) ∧
        EndG X.K X.mg B F2 (L2.wipe σ vs) W0 (fun r ρ3 F3 H3 => F3 A = none → (∀ i, ¬ CellAt ρ3 (L2.wipe σ vs) i A) → StR X.K X.mg B F3 ρ3 (L2.wipe σ vs) H3 → Ex F1 F3 →
          ∀ ws', Reps X.K X.mg F3 ws' (acc ++ r) → Q (.ref A) (upd H3 A (.lst ws'))) (compL g ft fe vs (ds.drop i) ρ2),
        ⟨ds.length, rfl, Nat.zero_le _, wipeD ρ1 vs, F1, [], [], Sw.grow (Ex.new hA), Ex.refl F1, upd_same, .nil, Nat.le_refl _, hF1, Sw.newC hA, ?_⟩, ?_⟩
      · rw [List.drop_zero]
        cases q : compL g ft fe vs ds (wipeD ρ1 vs) with
        | bad => rw [q] at z1; exact z1.elim
        | ex c fs ρ' => exact absurd q (compL_noex _ _)
        | ok r ρ2 =>
          rw [q] at z1
          intro F3 H3 S3 e3 hF3 hC3 _ e3' ws' rw'
          have S3' : StR X.K X.mg B F3 (DL.unwipe ρ1 ρ2 vs) σ (upd H3 A (.lst ws')) := S1.unwipe e3' (S3.retell h0 hF3 hC3 _)
          refine z1 F3 _ S3' e3 A ⟨⟨_, upd_same, COr.lst (by simpa using rw')⟩, hF3, h0, fun i ⟨⟨s, co, q1, hc⟩, q2⟩ => ?_⟩
          rcases unwipe_get ρ1 ρ2 q1 with ⟨_, zz⟩ | ⟨z1', z2'⟩
          · subst zz
            cases hh : ρ1.getD i .no <;> rw [hh] at hc <;> simp [keepT, isCell] at hc
          · exact hC3 i ⟨⟨s, co, z2', hc⟩, by rw [wipe_get, if_neg z1']; exact q2⟩
      · rintro i m H2 ⟨rfl, hi, ρ2, F2, ws, acc, S2, e2, hA2, rA, hacc, hF2, hC2, z2⟩
        by_cases hlt : i < ds.length
        · refine .inr ⟨w.goes i H2 hlt (e2.exD S2.ex), fun H3 => ∃ ρ3 F3 ws3 acc3, StR X.K X.mg B F3 ρ3 (L2.wipe σ vs) H3 ∧ Ex F1 F3 ∧ H3 A = some (.lst ws3) ∧ Reps X.K X.mg F3 ws3 acc3 ∧ acc3.length ≤ i + 1 ∧ F3 A = none ∧ (∀ i, ¬ CellAt ρ3 (L2.wipe σ vs) i A) ∧
            EndG X.K X.mg B F3 (L2.wipe σ vs) W0 (fun r ρ4 F4 H4 => F4 A = none → (∀ i, ¬ CellAt ρ4 (L2.wipe σ vs) i A) → StR X.K X.mg B F4 ρ4 (L2.wipe σ vs) H4 → Ex F1 F4 →
              ∀ ws', Reps X.K X.mg F4 ws' (acc3 ++ r) → Q (.ref A) (upd H4 A (.lst ws'))) (compL g ft fe vs (ds.drop (i + 1)) ρ3),
            fun H3 ⟨ρ3, F3, ws3, acc3, g⟩ => ⟨ds.length - (i + 1), by omega, rfl, hlt, ρ3, F3, ws3, acc3, g⟩, fun x H3 y => ?_⟩
          have S2h := S2.hold hA2 hF2 h0 hC2
          obtain ⟨d, F3, hd, e3, S3, r3, eH⟩ := w.step S2h e2 hlt y
          rw [drop_cons hd] at z2
          unfold compL at z2
          cases q : g d ρ2 with
          | none => rw [q] at z2; exact z2.elim
          | some ρ3 =>
            rw [q] at z2
            simp only [optR_some, Rs.bind_ok] at z2
            refine sg _ F3 ρ2 (L2.wipe σ vs) H3 x d ρ3 _ S3 r3 q fun σ4 S4 t4 => ⟨by rw [t4.wipe, wipe_wipe], ?_⟩
            have ew : L2.wipe σ4 vs = L2.wipe σ vs := by rw [t4.wipe, wipe_wipe]
            refine st _ F3 ρ3 σ4 H3 _ S4 ?_
            cases q2 : ft ρ3 with
            | bad => rw [q2] at z2; exact z2.elim
            | ex _ _ _ => rw [q2] at z2; exact z2.elim
            | ok b ρ4 =>
              rw [q2] at z2
              simp only [noEx_ok, Rs.bind_ok] at z2
              intro F4 H4 S5 e4
              have e14 : Ex F1 F4 := (e2.trans e3).trans e4
              have rA4 : Reps X.K X.mg F4 ws acc := rA.ext (e3.trans e4)
              cases b with
              | false =>
                rw [if_neg Bool.false_ne_true] at z2
                show ∃ ρ3 F3 ws3 acc3, _
                obtain ⟨S6, hA6, hF6, hC6⟩ := S5.unhold h0 rfl hp hF0
                have S7 := S6.wipe vs
                rw [ew] at S7
                have hC7 := wipe_noCell (vs := vs) hC6
                rw [ew] at hC7
                exact ⟨wipeD ρ4 vs, F4, ws, acc, S7, e14, hA6, rA4, by omega, hF6, hC7, EndG.ext (e3.trans e4) z2⟩
              | true =>
                rw [if_pos rfl] at z2
                show te σ4 H4 fun y H5 => ∃ acc', H5 A = some (.lst acc') ∧ acc'.length < sizeLine ∧ _
                refine se _ F4 ρ4 σ4 H4 _ S5 ?_
                cases q3 : fe ρ4 with
                | bad => rw [q3] at z2; exact z2.elim
                | ex _ _ _ => rw [q3] at z2; exact z2.elim
                | ok ed ρ5 =>
                  rw [q3] at z2
                  simp only [noEx_ok, Rs.bind_ok] at z2
                  intro F5 H5 S6 e5 u ru
                  obtain ⟨S7, hA7, hF7, hC7⟩ := S6.unhold h0 rfl hp hF0
                  have rA5 : Reps X.K X.mg F5 ws acc := rA4.ext e5
                  refine ⟨ws, hA7, by rw [rA5.length, sizeLine_eq]; omega, wipeD ρ5 vs, F5, ws ++ [u], acc ++ [ed], ?_, e14.trans e5, upd_same, rA5.append (Reps.one ru), by rw [List.length_append]; simp; omega, hF7, ?_, ?_⟩
                  · have S8 := (S7.retell h0 hF7 hC7 (.lst (ws ++ [u]))).wipe vs
                    rw [ew] at S8
                    exact S8
                  · have hC8 := wipe_noCell (vs := vs) hC7
                    rw [ew] at hC8
                    exact hC8
                  · refine EndG.cont (EndG.ext ((e3.trans e4).trans e5) z2) fun r ρ6 F6 H6 S8 e6 z3 hF8 hC8 S9 e9 ws' rw' => ?_
                    exact z3 F6 H6 S8 (Ex.refl F6) hF8 hC8 S9 e9 ws' (by simpa using rw')
        · have hn : i = ds.length := by omega
          subst hn
          rw [List.drop_length] at z2
          refine .inl ⟨w.stops H2 (e2.exD S2.ex), ?_⟩
          have zz := z2 F2 H2 S2 (Ex.refl F2) hF2 hC2 S2 e2 ws (by rw [List.append_nil]; exact rA)
          have eu : upd H2 A (.lst ws) = H2 := by
            funext b
            by_cases c : b = A
            · subst c; rw [upd_same, hA2]
            · rw [upd_ne c]
          rw [eu] at zz
          exact zz
    · exact z1.elim)
def tgOf (K : PySem.W.Frag) (mg : Str → Option Value) (vs : List Nat) (g : D → EnvD → Option EnvD) : TG := fun x σ H Q => ∃ B F ρ d ρ', StR K mg B F ρ σ H ∧ Rep K mg F x d ∧ g d ρ = some ρ' ∧ ∀ σ', StR K mg B F ρ' σ' H → Touch vs σ σ' → Q σ' H
theorem DG.can {vs : List Nat} {g : D → EnvD → Option EnvD} (h : DG X tg vs g) : PG X tg (tgOf X.K X.mg vs g) := by
  obtain ⟨t, h1, h2⟩ := h.ex
  exact ⟨fun pins s σ H v u Q I r ⟨B, F, ρ, d, ρ', S, r', e, k⟩ => h1.run pins s σ H v u Q I r (h2 B F ρ σ H v d ρ' Q S r' e k)⟩
theorem tgOf_snd {K : PySem.W.Frag} {mg : Str → Option Value} {vs : List Nat} {g : D → EnvD → Option EnvD} : GSnd K mg (tgOf K mg vs g) vs g := fun B F ρ σ H x d ρ' Q S r e k => ⟨B, F, ρ, d, ρ', S, r, e, k⟩
theorem tYes_snd : TSnd X W tYes tYesB := fun B F ρ σ H Q S z => z F H S (Ex.refl F)
theorem ne_lc {vs : List Nat} {fi : EnvD → Rs (List D)} {g : D → EnvD → Option EnvD} {fe : EnvD → Rs D} (hc : X.calm = true) (hN : X.N.Nodup) (hi : DI X W tg iter fi) (ok : BlkOk X.N X.env.scope scope own) (hv : own.map (·.2) = vs)
    (hg : ∀ (s : Shared) (H : Hp) (C : Addr) (cl : List (Str × Addr)) (fp : List Addr), DG (X.blk s H scope (compEnvC scope cl C X.env) fp) tg vs g)
    (he : ∀ (s : Shared) (H : Hp) (C : Addr) (cl : List (Str × Addr)) (fp : List Addr), DE (X.blk s H scope (compEnvC scope cl C X.env) fp) W0 elt fe) (hs : ∀ x, foldedSetIterable iter X.env x = pure x := by intro _; rfl) :
    NE X W (.ListComp elt [⟨tg, iter, [], 0⟩] scope pos) (nComp fi g tYesB fe vs) := by
  obtain ⟨wi, h1, s1⟩ := hi.ex
  subst hv
  exact ⟨_, pe_lc hc hN h1 ok (fun s H C cl fp => (hg s H C cl fp).can) (fun _ _ _ _ _ => pts_nil) (fun s H C cl fp => (he s H C cl fp).can) hs, lc_snd s1 tgOf_snd tYes_snd teOf_snd⟩
theorem ne_lcIf {c : Expr} {vs : List Nat} {fi : EnvD → Rs (List D)} {g : D → EnvD → Option EnvD} {fc : EnvD → Rs Bool} {fe : EnvD → Rs D} (hc : X.calm = true) (hN : X.N.Nodup) (hi : DI X W tg iter fi) (ok : BlkOk X.N X.env.scope scope own) (hv : own.map (·.2) = vs)
    (hg : ∀ (s : Shared) (H : Hp) (C : Addr) (cl : List (Str × Addr)) (fp : List Addr), DG (X.blk s H scope (compEnvC scope cl C X.env) fp) tg vs g)
    (ht : ∀ (s : Shared) (H : Hp) (C : Addr) (cl : List (Str × Addr)) (fp : List Addr), DT (X.blk s H scope (compEnvC scope cl C X.env) fp) W0 c fc)
    (he : ∀ (s : Shared) (H : Hp) (C : Addr) (cl : List (Str × Addr)) (fp : List Addr), DE (X.blk s H scope (compEnvC scope cl C X.env) fp) W0 elt fe) (hs : ∀ x, foldedSetIterable iter X.env x = pure x := by intro _; rfl) :
    NE X W (.ListComp elt [⟨tg, iter, [c], 0⟩] scope pos) (nComp fi g fc fe vs) := by
  obtain ⟨wi, h1, s1⟩ := hi.ex
  subst hv
  exact ⟨_, pe_lc hc hN h1 ok (fun s H C cl fp => (hg s H C cl fp).can) (fun s H C cl fp => pts_one (ht s H C cl fp).can) (fun s H C cl fp => (he s H C cl fp).can) hs, lc_snd s1 tgOf_snd ttOf_snd teOf_snd⟩
/-- y = [..] on one line, y a plain local -/
theorem ds_setLc {i : Nat} {y : Str} {py spos : Pos} {vs : List Nat} {fi : EnvD → Rs (List D)} {g : D → EnvD → Option EnvD} {fe : EnvD → Rs D} (hc : X.calm = true) (hN : X.N.Nodup) (hy : X.N[i]? = some y) (hyl : X.env.scope.names.lookup y = some .local)
    (hsw : swapsWith (.ListComp elt [⟨tg, iter, [], 0⟩] scope pos) (some (.Name y py)) spos.line X.env = pure true) (hi : DI X W tg iter fi) (ok : BlkOk X.N X.env.scope scope own) (hv : own.map (·.2) = vs)
    (hg : ∀ (s : Shared) (H : Hp) (C : Addr) (cl : List (Str × Addr)) (fp : List Addr), DG (X.blk s H scope (compEnvC scope cl C X.env) fp) tg vs g)
    (he : ∀ (s : Shared) (H : Hp) (C : Addr) (cl : List (Str × Addr)) (fp : List Addr), DE (X.blk s H scope (compEnvC scope cl C X.env) fp) W0 elt fe) (hs : ∀ x, foldedSetIterable iter X.env x = pure x := by intro _; rfl) :
    DS X W (.Assign [.Name y py] (.ListComp elt [⟨tg, iter, [], 0⟩] scope pos) spos) (sSetN i (nComp fi g tYesB fe vs)) := by
  obtain ⟨wi, h1, s1⟩ := hi.ex
  subst hv
  exact ⟨_, ps_setLc hc hN hy hyl hsw h1 ok (fun s H C cl fp => (hg s H C cl fp).can) (fun _ _ _ _ _ => pts_nil) (fun s H C cl fp => (he s H C cl fp).can) hs, setN_snd (lc_snd s1 tgOf_snd tYes_snd teOf_snd)⟩
theorem ds_setLcIf {c : Expr} {i : Nat} {y : Str} {py spos : Pos} {vs : List Nat} {fi : EnvD → Rs (List D)} {g : D → EnvD → Option EnvD} {fc : EnvD → Rs Bool} {fe : EnvD → Rs D} (hc : X.calm = true) (hN : X.N.Nodup) (hy : X.N[i]? = some y) (hyl : X.env.scope.names.lookup y = some .local)
    (hsw : swapsWith (.ListComp elt [⟨tg, iter, [c], 0⟩] scope pos) (some (.Name y py)) spos.line X.env = pure true) (hi : DI X W tg iter fi) (ok : BlkOk X.N X.env.scope scope own) (hv : own.map (·.2) = vs)
    (hg : ∀ (s : Shared) (H : Hp) (C : Addr) (cl : List (Str × Addr)) (fp : List Addr), DG (X.blk s H scope (compEnvC scope cl C X.env) fp) tg vs g)
    (ht : ∀ (s : Shared) (H : Hp) (C : Addr) (cl : List (Str × Addr)) (fp : List Addr), DT (X.blk s H scope (compEnvC scope cl C X.env) fp) W0 c fc)
    (he : ∀ (s : Shared) (H : Hp) (C : Addr) (cl : List (Str × Addr)) (fp : List Addr), DE (X.blk s H scope (compEnvC scope cl C X.env) fp) W0 elt fe) (hs : ∀ x, foldedSetIterable iter X.env x = pure x := by intro _; rfl) :
    DS X W (.Assign [.Name y py] (.ListComp elt [⟨tg, iter, [c], 0⟩] scope pos) spos) (sSetN i (nComp fi g fc fe vs)) := by
  obtain ⟨wi, h1, s1⟩ := hi.ex
  subst hv
  exact ⟨_, ps_setLc hc hN hy hyl hsw h1 ok (fun s H C cl fp => (hg s H C cl fp).can) (fun s H C cl fp => pts_one (ht s H C cl fp).can) (fun s H C cl fp => (he s H C cl fp).can) hs, setN_snd (lc_snd s1 tgOf_snd ttOf_snd teOf_snd)⟩
end
end DL

/-! The data layer, 6: defs and their calls. -/
namespace DL
open PySem PySem.Spec PyProof.Rows L2

inductive RF where
  | ok (d : D) (outs : List SV) | okN (co : CO) (outs : List SV) | ex (c : Str) (fs : List (Str × D)) (outs : List SV) | bad
/-- a def's mirror: arguments (data, or cells that it may change), to the result and the cells behind -/
abbrev Mir := List SV → RF
def outsOk : List SV → List SV → Bool
  | [], [] => true
  | .p _ :: ss, .p _ :: os => outsOk ss os
  | .p _ :: _, _ => false
  | _ :: ss, _ :: os => outsOk ss os
  | _, _ => false
def runFn (n k : Nat) (body : EnvD → RS) : Mir := fun svs => if svs.length = k then match body (svs ++ List.replicate (n - k) .no) with
    | .nx ρ => if outsOk svs (ρ.take k) = true then .ok .non (ρ.take k) else .bad
    | .rn co ρ => if outsOk svs (ρ.take k) = true then .okN co (ρ.take k) else .bad
    | .rt d ρ => if outsOk svs (ρ.take k) = true then .ok d (ρ.take k) else .bad
    | .ex c fs ρ => if outsOk svs (ρ.take k) = true then .ex c fs (ρ.take k) else .bad
    | _ => .bad
  else .bad
section
variable (K : PySem.W.Frag) (mg : Str → Option Value)
def ArgsR (F H : Hp) : List V → List SV → Prop
  | [], [] => True
  | v :: vs, .t d :: ss => Rep K mg F v d ∧ ArgsR F H vs ss
  | v :: vs, .p co :: ss => (∃ a o, v = .ref a ∧ H a = some o ∧ F a = none ∧ COr K mg F o co) ∧ ArgsR F H vs ss
  | _, _ => False
def ioAddr : List V → List SV → List Addr
  | .ref a :: vs, .p _ :: ss => a :: ioAddr vs ss
  | _ :: vs, _ :: ss => ioAddr vs ss
  | _, _ => []
def OutsR (F' H' : Hp) : List V → List SV → List SV → Prop
  | [], [], [] => True
  | v :: vs, .p _ :: ss, o :: os => (∃ co' a u, o = .p co' ∧ v = .ref a ∧ H' a = some u ∧ F' a = none ∧ COr K mg F' u co') ∧ OutsR F' H' vs ss os
  | _ :: vs, _ :: ss, _ :: os => OutsR F' H' vs ss os
  | _, _, _ => False
structure Back (F H F' H' : Hp) (vs : List V) (svs outs : List SV) : Prop where
  ex : Ex F F'
  exD : ExD F' H'
  fresh : ∀ b, F b = none → F' b ≠ none → H b = none
  frame : ∀ b o, H b = some o → b ∉ ioAddr vs svs → H' b = some o
  outs : OutsR K mg F' H' vs svs outs
def EndF (F H : Hp) (vs : List V) (svs : List SV) (Q : VK) (E : XK) : RF → Prop
  | .ok d outs => ∀ v F' H', Back K mg F H F' H' vs svs outs → Rep K mg F' v d → Q v H'
  | .okN co outs => ∀ a F' H', Back K mg F H F' H' vs svs outs → (∃ o, H' a = some o ∧ COr K mg F' o co) → F' a = none → H a = none → Q (.ref a) H'
  | .ex c fs outs => ∀ cls dd F' H', Back K mg F H F' H' vs svs outs → ExR K mg F' H' cls dd c fs → E cls dd H'
  | .bad => False
/-- the promise of a def whose mirror is m -/
def spD (k : Nat) (m : Mir) : Sp := fun vs H Q E => ∃ F svs, vs.length = k ∧ ExD F H ∧ ArgsR K mg F H vs svs ∧ (ioAddr vs svs).Nodup ∧ EndF K mg F H vs svs Q E (m svs)
end
section
variable {K : PySem.W.Frag} {mg : Str → Option Value} {F H : Hp}
theorem ArgsR.length : ∀ {vs : List V} {ss : List SV}, ArgsR K mg F H vs ss → vs.length = ss.length
  | [], [], _ => rfl
  | _ :: _, .t _ :: _, ⟨_, r⟩ => by rw [List.length_cons, List.length_cons, r.length]
  | _ :: _, .p _ :: _, ⟨_, r⟩ => by rw [List.length_cons, List.length_cons, r.length]
  | _ :: _, .no :: _, h => h.elim
  | _ :: _, .c _ :: _, h => h.elim
  | [], _ :: _, h => by cases h
  | _ :: _, [], h => by cases h
theorem ArgsR.at_ : ∀ {vs : List V} {ss : List SV} {i : Nat} {s : SV}, ArgsR K mg F H vs ss → ss[i]? = some s →
    (∃ d v, s = .t d ∧ vs[i]? = some v ∧ Rep K mg F v d) ∨ (∃ co a o, s = .p co ∧ vs[i]? = some (.ref a) ∧ H a = some o ∧ F a = none ∧ COr K mg F o co)
  | v :: _, .t d :: _, 0, s, ⟨h, _⟩, e => by cases e; exact .inl ⟨d, v, rfl, rfl, h⟩
  | _ :: _, .p co :: _, 0, s, ⟨⟨a, o, rfl, h⟩, _⟩, e => by cases e; exact .inr ⟨co, a, o, rfl, rfl, h⟩
  | _ :: _, .t _ :: _, i + 1, s, ⟨_, r⟩, e => by simpa using ArgsR.at_ (i := i) r (by simpa using e)
  | _ :: _, .p _ :: _, i + 1, s, ⟨_, r⟩, e => by simpa using ArgsR.at_ (i := i) r (by simpa using e)
  | _ :: _, .no :: _, _, _, h, _ => h.elim
  | _ :: _, .c _ :: _, _, _, h, _ => h.elim
  | [], [], _, _, _, e => by simp at e
  | [], _ :: _, _, _, h, _ => by cases h
  | _ :: _, [], _, _, h, _ => by cases h
def cAddr (vs : List V) (ss : List SV) (i : Nat) : Option Addr := match ss[i]?, vs[i]? with
  | some (.p _), some (.ref a) => some a
  | _, _ => none
theorem cAddr_mem : ∀ {vs : List V} {ss : List SV} {i : Nat} {a : Addr}, cAddr vs ss i = some a → a ∈ ioAddr vs ss
  | [], ss, i, a, h => by
    unfold cAddr at h
    cases q : ss[i]? with
    | none => rw [q] at h; simp at h
    | some s => rw [q] at h; cases s <;> simp at h
  | v :: vs, [], i, a, h => by
    unfold cAddr at h
    simp at h
  | v :: vs, s :: ss, 0, a, h => by
    unfold cAddr at h
    simp only [List.getElem?_cons_zero] at h
    cases s <;> cases v <;> simp at h
    subst h
    simp [ioAddr]
  | v :: vs, s :: ss, i + 1, a, h => by
    have h' : cAddr vs ss i = some a := by
      unfold cAddr at h ⊢
      simpa using h
    have m := cAddr_mem h'
    cases s <;> cases v <;> simp [ioAddr, m]
theorem cAddr_inj : ∀ {vs : List V} {ss : List SV} {i j : Nat} {a : Addr}, (ioAddr vs ss).Nodup → cAddr vs ss i = some a → cAddr vs ss j = some a → i = j
  | [], ss, i, j, a, _, h, _ => by
    have := cAddr_mem h
    simp [ioAddr] at this
  | _ :: _, [], i, j, a, _, h, _ => by
    have := cAddr_mem h
    simp [ioAddr] at this
  | v :: vs, s :: ss, i, j, a, n, h1, h2 => by
    have tail : ∀ {i : Nat}, cAddr (v :: vs) (s :: ss) (i + 1) = some a → cAddr vs ss i = some a := fun {i} h => by
      unfold cAddr at h ⊢
      simpa using h
    have head : cAddr (v :: vs) (s :: ss) 0 = some a → ∃ co, s = .p co ∧ v = .ref a := fun h => by
      unfold cAddr at h
      simp only [List.getElem?_cons_zero] at h
      cases s <;> cases v <;> simp at h
      exact ⟨_, rfl, by rw [h]⟩
    have nt : (ioAddr vs ss).Nodup := by
      cases s <;> cases v <;> first | exact n | exact (List.nodup_cons.mp n).2
    cases i with
    | zero =>
      cases j with
      | zero => rfl
      | succ j =>
        obtain ⟨co, rfl, rfl⟩ := head h1
        exact absurd (cAddr_mem (tail h2)) (List.nodup_cons.mp n).1
    | succ i =>
      cases j with
      | zero =>
        obtain ⟨co, rfl, rfl⟩ := head h2
        exact absurd (cAddr_mem (tail h1)) (List.nodup_cons.mp n).1
      | succ j => rw [cAddr_inj nt (tail h1) (tail h2)]
theorem start_get {N : List Str} {vs : List V} {i : Nat} {v : V} (h : vs[i]? = some v) : (L2.start N vs)[i]? = some (some v) := by
  unfold L2.start
  have hl : i < vs.length := (List.getElem?_eq_some_iff.mp h).1
  rw [List.getElem?_append_left (by rw [List.length_map]; exact hl), List.getElem?_map, h]
  rfl
theorem outsOk_len : ∀ {ss os : List SV}, outsOk ss os = true → ss.length = os.length
  | [], [], _ => rfl
  | [], _ :: _, h => by simp [outsOk] at h
  | .p _ :: ss, .p _ :: os, h => by rw [List.length_cons, List.length_cons, outsOk_len (by simpa [outsOk] using h)]
  | .p _ :: ss, .no :: os, h => by simp [outsOk] at h
  | .p _ :: ss, .t _ :: os, h => by simp [outsOk] at h
  | .p _ :: ss, .c _ :: os, h => by simp [outsOk] at h
  | .p _ :: ss, [], h => by simp [outsOk] at h
  | .no :: ss, o :: os, h => by rw [List.length_cons, List.length_cons, outsOk_len (by simpa [outsOk] using h)]
  | .t _ :: ss, o :: os, h => by rw [List.length_cons, List.length_cons, outsOk_len (by simpa [outsOk] using h)]
  | .c _ :: ss, o :: os, h => by rw [List.length_cons, List.length_cons, outsOk_len (by simpa [outsOk] using h)]
  | .no :: ss, [], h => by simp [outsOk] at h
  | .t _ :: ss, [], h => by simp [outsOk] at h
  | .c _ :: ss, [], h => by simp [outsOk] at h
/-- the cells behind a def's body -/
theorem outsR_of {F' H' : Hp} {σ' : L2.St} : ∀ {vs : List V} {ss os : List SV} (n : Nat), outsOk ss os = true → vs.length = ss.length →
    (∀ (i : Nat) (co : CO), os[i]? = some (.p co) → ∃ a u, σ'[n + i]? = some (some (.ref a)) ∧ cAddr vs ss i = some a ∧ H' a = some u ∧ F' a = none ∧ COr K mg F' u co) → OutsR K mg F' H' vs ss os
  | [], [], [], _, _, _, _ => trivial
  | v :: vs, s :: ss, o :: os, n, h, hl, k => by
    have kt : ∀ (i : Nat) (co : CO), os[i]? = some (.p co) → ∃ a u, σ'[n + 1 + i]? = some (some (.ref a)) ∧ cAddr vs ss i = some a ∧ H' a = some u ∧ F' a = none ∧ COr K mg F' u co := fun i co e => by
      obtain ⟨a, u, h1, h2, h3⟩ := k (i + 1) co (by simpa using e)
      refine ⟨a, u, by rw [show n + 1 + i = n + (i + 1) by omega]; exact h1, ?_, h3⟩
      unfold cAddr at h2 ⊢
      simpa using h2
    have hl' : vs.length = ss.length := by simpa using hl
    cases s with
    | p co0 =>
      cases o with
      | p co =>
        obtain ⟨a, u, h1, h2, h3, h4, h5⟩ := k 0 co rfl
        have hv : v = .ref a := by
          unfold cAddr at h2
          simp only [List.getElem?_cons_zero] at h2
          cases v <;> simp at h2
          rw [h2]
        exact ⟨⟨co, a, u, rfl, hv, h3, h4, h5⟩, outsR_of (n + 1) (by simpa [outsOk] using h) hl' kt⟩
      | _ => simp [outsOk] at h
    | no => exact outsR_of (vs := vs) (ss := ss) (os := os) (n + 1) (by simpa [outsOk] using h) hl' kt
    | t d => exact outsR_of (vs := vs) (ss := ss) (os := os) (n + 1) (by simpa [outsOk] using h) hl' kt
    | c co => exact outsR_of (vs := vs) (ss := ss) (os := os) (n + 1) (by simpa [outsOk] using h) hl' kt
  | [], [], _ :: _, _, h, _, _ => by simp [outsOk] at h
  | [], _ :: _, _, _, _, hl, _ => by simp at hl
  | _ :: _, [], _, _, _, hl, _ => by simp at hl
  | _ :: _, s :: _, [], _, h, _, _ => by cases s <;> simp [outsOk] at h

/-- a def's body keeps the promise of its mirror -/
theorem fn_snd {ps N : List Str} {t : TS} {fb : EnvD → RS} {X : Cx} {W : WX} {vs : List V} {Q : VK} {E : XK} (hsp : spD X.K X.mg ps.length (runFn N.length ps.length fb) vs H Q E) (hN : ps.length ≤ N.length) (hs : SSnd X W t fb) (hW : ∀ cls d σ H', E cls d H' → W cls d σ H') :
    t { nx := fun _ H' => Q .non H', rt := Q } (L2.start N vs) H := by
  obtain ⟨F, svs, hl, hex, ha, nd, z⟩ := hsp
  have hlen := ha.length
  have hk : svs.length = ps.length := by rw [← hlen]; exact hl
  unfold runFn at z
  rw [if_pos hk] at z
  have ρ0len : (svs ++ List.replicate (N.length - ps.length) SV.no).length = (L2.start N vs).length := by
    unfold L2.start
    simp only [List.length_append, List.length_replicate, List.length_map]
    omega
  have inS : ∀ {i : Nat} {s : SV}, (svs ++ List.replicate (N.length - ps.length) SV.no)[i]? = some s → s = .no ∨ svs[i]? = some s := fun {i s} e => by
    by_cases c : i < svs.length
    · rw [List.getElem?_append_left c] at e
      exact .inr e
    · rw [List.getElem?_append_right (by omega), List.getElem?_replicate] at e
      split at e
      · cases e; exact .inl rfl
      · cases e
  let B : Bs := ⟨F, H, cAddr vs svs, []⟩
  have cellIs : ∀ {i : Nat} {a : Addr}, CellAt (svs ++ List.replicate (N.length - ps.length) SV.no) (L2.start N vs) i a → cAddr vs svs i = some a := fun {i a} ⟨⟨s, co, e, hc⟩, e2⟩ => by
    rcases inS e with z | z
    · subst z; simp [isCell] at hc
    · rcases ha.at_ z with ⟨d, v, rfl, _⟩ | ⟨co', a', o, rfl, h1, _⟩
      · simp [isCell] at hc
      · rw [start_get h1] at e2
        cases e2
        unfold cAddr
        rw [z, h1]
  have S : StR X.K X.mg B F (svs ++ List.replicate (N.length - ps.length) SV.no) (L2.start N vs) H := by
    refine ⟨hex, Ex.refl F, ρ0len, fun i s e => ?_, fun i j a hi hj => cAddr_inj nd (cellIs hi) (cellIs hj), fun b q1 q2 => absurd q1 q2, fun b o q n => .inl q, fun i a o q1 q2 => ?_, fun i o q => ?_, fun i j a h1 h2 => cAddr_inj nd h1 h2, fun i a q => ?_⟩
    · rcases inS e with q | q
      · subst q; trivial
      · rcases ha.at_ q with ⟨d, v, rfl, h1, h2⟩ | ⟨co, a, o, rfl, h1, h2, h3, h4⟩
        · exact ⟨v, start_get h1, h2⟩
        · exact ⟨a, o, start_get h1, h2, h3, h4⟩
    · rcases inS q1 with q | q
      · cases q
      · rcases ha.at_ q with ⟨d, v, h, _⟩ | ⟨co, a', o', h, _⟩ <;> cases h
    · rcases inS q with q | q
      · cases q
      · rcases ha.at_ q with ⟨d, v, h, _⟩ | ⟨co, a', o', h, h1, _⟩
        · cases h
        · refine ⟨a', start_get h1, ?_⟩
          show cAddr vs svs i = some a'
          unfold cAddr
          rw [q, h1]
    · have q : cAddr vs svs i = some a := q
      have : ∃ co, svs[i]? = some (.p co) ∧ vs[i]? = some (.ref a) := by
        unfold cAddr at q
        split at q
        · rename_i co a' h1 h2
          cases q
          exact ⟨co, h1, h2⟩
        · cases q
      obtain ⟨co, q1, q2⟩ := this
      rcases ha.at_ q1 with ⟨d, v, h, _⟩ | ⟨co', a', o', h, h1, h2, h3, _⟩
      · cases h
      · rw [q2] at h1
        cases h1
        exact ⟨h3, h3, (by show H a ≠ none; rw [h2]; simp), by rw [h2]; simp⟩
  have back : ∀ {ρ' : EnvD} {σ' : L2.St} {F' H' : Hp}, StR X.K X.mg B F' ρ' σ' H' → outsOk svs (ρ'.take ps.length) = true → Back X.K X.mg F H F' H' vs svs (ρ'.take ps.length) := fun {ρ' σ' F' H'} S' ho =>
    { ex := S'.ex0, exD := S'.ex, fresh := S'.fresh
      frame := fun b o q n => by
        rcases S'.frame b o q (fun i z => n (cAddr_mem z)) with w | ⟨w, _⟩
        · exact w
        · cases w
      outs := outsR_of (σ' := σ') 0 ho hlen fun i co e => by
        have e' : ρ'[i]? = some (.p co) := by
          rw [List.getElem?_take] at e
          split at e
          · exact e
          · cases e
        obtain ⟨a, h1, h2⟩ := S'.par i co e'
        obtain ⟨a', u, g1, g2, g3, g4⟩ := S'.slot i _ e'
        rw [h1] at g1
        cases g1
        exact ⟨a, u, by rw [Nat.zero_add]; exact h1, h2, g2, g3, g4⟩ }
  refine hs B F _ _ H _ S ?_
  cases q : fb (svs ++ List.replicate (N.length - ps.length) SV.no) with
  | nx ρ' =>
    rw [q] at z
    simp only at z
    split at z
    · rename_i ho
      exact fun σ' F' H' S' e' => z .non F' H' (back S' ho) .non
    · exact z.elim
  | rt d ρ' =>
    rw [q] at z
    simp only at z
    split at z
    · rename_i ho
      exact fun σ' F' H' v S' e' r => z v F' H' (back S' ho) r
    · exact z.elim
  | rn co ρ' =>
    rw [q] at z
    simp only at z
    split at z
    · rename_i ho
      exact fun σ' F' H' a S' e' N => z a F' H' (back S' ho) N.at_ N.nF N.n0
    · exact z.elim
  | ex c fs ρ' =>
    rw [q] at z
    simp only at z
    split at z
    · rename_i ho
      exact fun cls dd σ' F' H' S' e' r => hW _ _ _ _ (z cls dd F' H' (back S' ho) r)
    · exact z.elim
  | bk ρ' => rw [q] at z; exact z.elim
  | ct ρ' => rw [q] at z; exact z.elim
  | bad => rw [q] at z; exact z.elim
end
end DL

/-! The data layer, 7: calls. -/
namespace DL
open PySem PySem.Spec PyProof.Rows L2

/-- what an operand is as an argument: a datum, or a cell that the callee may change -/
def PD.arg (ρ : EnvD) : PD → Option SV
  | .d x => some (.t x)
  | .v i => match ρ[i]? with
    | some (.t x) => some (.t x)
    | some (.c co) => some (.p co)
    | some (.p co) => some (.p co)
    | _ => none
def argsD (ρ : EnvD) : List PD → Option (List SV)
  | [] => some []
  | p :: ps => match p.arg ρ with
    | none => none
    | some s => match argsD ρ ps with
      | none => none
      | some ss => some (s :: ss)
def PD.io (ρ : EnvD) : PD → List Nat
  | .d _ => []
  | .v i => match ρ[i]? with
    | some (.c _) => [i]
    | some (.p _) => [i]
    | _ => []
def ioSlots (ρ : EnvD) : List PD → List Nat
  | [] => []
  | p :: ps => p.io ρ ++ ioSlots ρ ps
def putOut (ρ : EnvD) : PD → SV → EnvD
  | .v i, .p co => match ρ[i]? with
    | some s => ρ.set i (reCell s co)
    | none => ρ
  | _, _ => ρ
def putOuts : EnvD → List PD → List SV → EnvD
  | ρ, p :: ps, o :: os => putOuts (putOut ρ p o) ps os
  | ρ, _, _ => ρ
def kindS : Option SV → Nat
  | none => 0
  | some .no => 1
  | some (.t _) => 2
  | some (.c _) => 3
  | some (.p _) => 4
theorem kind_reCell {s : SV} {co : CO} : kindS (some (reCell s co)) = kindS (some s) := by cases s <;> rfl
section
variable {K : PySem.W.Frag} {mg : Str → Option Value} {B : Bs} {F F' : Hp} {σ : L2.St} {ρ : EnvD} {H H' : Hp}

/-- the argument's four ways -/
theorem arg_way {p : PD} {s : SV} {v : V} (S : StR K mg B F ρ σ H) (hv : PRep K mg F σ v p) (ha : p.arg ρ = some s) :
    (∃ d, s = .t d ∧ Rep K mg F v d ∧ p.io ρ = []) ∨ (∃ i s0 co a o, p = .v i ∧ ρ[i]? = some s0 ∧ isCell s0 = some co ∧ s = .p co ∧ v = .ref a ∧ σ[i]? = some (some (.ref a)) ∧ H a = some o ∧ F a = none ∧ COr K mg F o co ∧ p.io ρ = [i]) := by
  cases p with
  | d d => cases ha; exact .inl ⟨d, rfl, hv, rfl⟩
  | v i =>
    have hv : σ[i]? = some (some v) := hv
    simp only [PD.arg] at ha
    cases e : ρ[i]? with
    | none => rw [e] at ha; cases ha
    | some s0 =>
      rw [e] at ha
      cases s0 with
      | no => cases ha
      | t d =>
        cases ha
        obtain ⟨u, h1, h2⟩ := S.slot i _ e
        rw [hv] at h1
        cases h1
        exact .inl ⟨d, rfl, h2, by simp [PD.io, e]⟩
      | c co =>
        cases ha
        obtain ⟨a, o, h1, h2, h3, h4⟩ := S.slot i _ e
        rw [hv] at h1
        cases h1
        exact .inr ⟨i, _, co, a, o, rfl, e, rfl, rfl, rfl, hv, h2, h3, h4, by simp [PD.io, e]⟩
      | p co =>
        cases ha
        obtain ⟨a, o, h1, h2, h3, h4⟩ := S.slot i _ e
        rw [hv] at h1
        cases h1
        exact .inr ⟨i, _, co, a, o, rfl, e, rfl, rfl, rfl, hv, h2, h3, h4, by simp [PD.io, e]⟩
theorem args_cons {p : PD} {ps : List PD} {svs : List SV} (h : argsD ρ (p :: ps) = some svs) : ∃ s ss, p.arg ρ = some s ∧ argsD ρ ps = some ss ∧ svs = s :: ss := by
  unfold argsD at h
  split at h
  · cases h
  · rename_i s e
    split at h
    · cases h
    · rename_i ss e2
      cases h
      exact ⟨s, ss, e, e2, rfl⟩
theorem args_argsR (S : StR K mg B F ρ σ H) : ∀ {ps : List PD} {vs : List V} {svs : List SV}, PReps K mg F σ vs ps → argsD ρ ps = some svs → ArgsR K mg F H vs svs
  | [], [], svs, _, h => by cases h; exact trivial
  | [], _ :: _, _, h, _ => h.elim
  | _ :: _, [], _, h, _ => h.elim
  | p :: ps, v :: vs, svs, ⟨hv, hr⟩, h => by
    obtain ⟨s, ss, h1, h2, rfl⟩ := args_cons h
    have ih := args_argsR S hr h2
    rcases arg_way S hv h1 with ⟨d, rfl, r, _⟩ | ⟨i, s0, co, a, o, _, _, _, rfl, rfl, _, h5, h6, h7, _⟩
    · exact ⟨r, ih⟩
    · exact ⟨⟨a, o, rfl, h5, h6, h7⟩, ih⟩
/-- the cells handed over, by slots -/
theorem args_io (S : StR K mg B F ρ σ H) : ∀ {ps : List PD} {vs : List V} {svs : List SV}, PReps K mg F σ vs ps → argsD ρ ps = some svs →
    (∀ a ∈ ioAddr vs svs, ∃ j ∈ ioSlots ρ ps, CellAt ρ σ j a) ∧ ((ioSlots ρ ps).Nodup → (ioAddr vs svs).Nodup)
  | [], [], svs, _, h => by cases h; exact ⟨fun a z => by simp [ioAddr] at z, fun _ => by simp [ioAddr]⟩
  | [], _ :: _, _, h, _ => h.elim
  | _ :: _, [], _, h, _ => h.elim
  | p :: ps, v :: vs, svs, ⟨hv, hr⟩, h => by
    obtain ⟨s, ss, h1, h2, rfl⟩ := args_cons h
    obtain ⟨ih1, ih2⟩ := args_io S hr h2
    rcases arg_way S hv h1 with ⟨d, rfl, r, e⟩ | ⟨i, s0, co, a, o, rfl, g1, g2, rfl, rfl, h4, h5, h6, h7, e⟩
    · have e1 : ioAddr (v :: vs) (.t d :: ss) = ioAddr vs ss := by cases v <;> rfl
      have e2 : ioSlots ρ (p :: ps) = ioSlots ρ ps := by show p.io ρ ++ _ = _; rw [e]; rfl
      rw [e1, e2]
      exact ⟨ih1, ih2⟩
    · have e1 : ioAddr (.ref a :: vs) (.p co :: ss) = a :: ioAddr vs ss := rfl
      have e2 : ioSlots ρ (.v i :: ps) = i :: ioSlots ρ ps := by show PD.io ρ _ ++ _ = _; rw [e]; rfl
      rw [e1, e2]
      have hc : CellAt ρ σ i a := ⟨⟨s0, co, g1, g2⟩, h4⟩
      refine ⟨fun b hb => ?_, fun nd => ?_⟩
      · rcases List.mem_cons.mp hb with rfl | hb
        · exact ⟨i, List.mem_cons_self, hc⟩
        · obtain ⟨j, hj, hc'⟩ := ih1 b hb
          exact ⟨j, List.mem_cons_of_mem _ hj, hc'⟩
      · obtain ⟨n1, n2⟩ := List.nodup_cons.mp nd
        refine List.nodup_cons.mpr ⟨fun hb => ?_, ih2 n2⟩
        obtain ⟨j, hj, hc'⟩ := ih1 a hb
        rw [S.apart i j a hc hc'] at n1
        exact n1 hj
theorem putOut_length {p : PD} {o : SV} : (putOut ρ p o).length = ρ.length := by
  unfold putOut
  split
  · split
    · rw [List.length_set]
    · rfl
  · rfl
theorem putOuts_length : ∀ {ps : List PD} {os : List SV} {ρ : EnvD}, (putOuts ρ ps os).length = ρ.length
  | [], os, ρ => by cases os <;> rfl
  | _ :: _, [], ρ => rfl
  | p :: ps, o :: os, ρ => by
    show (putOuts (putOut ρ p o) ps os).length = _
    rw [putOuts_length, putOut_length]
theorem kind_cell {x y : Option SV} {s : SV} {co : CO} (h : kindS x = kindS y) (e : y = some s) (c : isCell s = some co) : ∃ s' co', x = some s' ∧ isCell s' = some co' := by
  subst e
  cases s with
  | no => simp [isCell] at c
  | t d => simp [isCell] at c
  | c co =>
    match x, h with
    | some (.c co'), _ => exact ⟨_, co', rfl, rfl⟩
  | p co =>
    match x, h with
    | some (.p co'), _ => exact ⟨_, co', rfl, rfl⟩
theorem isCell_re {s : SV} {co co' : CO} (h : isCell s = some co) : isCell (reCell s co') = some co' := by cases s <;> simp [isCell] at h <;> rfl
theorem putOuts_spec {ρ0 : EnvD} (S : StR K mg B F ρ0 σ H) : ∀ {ps : List PD} {vs : List V} {svs outs : List SV} {ρ : EnvD}, PReps K mg F σ vs ps → argsD ρ0 ps = some svs → OutsR K mg F' H' vs svs outs →
    (∀ j : Nat, kindS ρ[j]? = kindS ρ0[j]?) → (ioSlots ρ0 ps).Nodup → ∀ j : Nat, (j ∈ ioSlots ρ0 ps ∧ ∃ s co co' a u, ρ[j]? = some s ∧ isCell s = some co ∧ (putOuts ρ ps outs)[j]? = some (reCell s co') ∧ σ[j]? = some (some (.ref a)) ∧ H' a = some u ∧ F' a = none ∧ COr K mg F' u co') ∨
      (j ∉ ioSlots ρ0 ps ∧ (putOuts ρ ps outs)[j]? = ρ[j]?)
  | [], [], svs, outs, ρ, _, h, _, _, _, j => by
    refine .inr ⟨by simp [ioSlots], ?_⟩
    cases outs <;> rfl
  | [], _ :: _, _, _, _, h, _, _, _, _, _ => h.elim
  | _ :: _, [], _, _, _, h, _, _, _, _, _ => h.elim
  | p :: ps, v :: vs, svs, outs, ρ, ⟨hv, hr⟩, h, ho, hk, nd, j => by
    obtain ⟨s, ss, h1, h2, rfl⟩ := args_cons h
    rcases arg_way S hv h1 with ⟨d, rfl, r, e⟩ | ⟨i, s0, co, a, o, rfl, g1, g2, rfl, rfl, h4, h5, h6, h7, e⟩
    · have e2 : ioSlots ρ0 (p :: ps) = ioSlots ρ0 ps := by show p.io ρ0 ++ _ = _; rw [e]; rfl
      rw [e2] at nd ⊢
      cases outs with
      | nil => cases v <;> exact ho.elim
      | cons o os =>
        have ho' : OutsR K mg F' H' vs ss os := by cases v <;> exact ho
        -- the out of a datum: the slot stays
        have same : putOut ρ p o = ρ := by
          cases p with
          | d d' => cases o <;> rfl
          | v i =>
            cases o with
            | p co' =>
              have hd : kindS ρ0[i]? = 2 := by
                simp only [PD.arg] at h1
                cases q : ρ0[i]? with
                | none => rw [q] at h1; cases h1
                | some t0 => rw [q] at h1; cases t0 <;> first | rfl | cases h1
              have hd2 := (hk i).trans hd
              cases q : ρ[i]? with
              | none => rw [q] at hd2; cases hd2
              | some t0 =>
                rw [q] at hd2
                cases t0 with
                | t d' =>
                  show (match ρ[i]? with | some s => ρ.set i (reCell s co') | none => ρ) = ρ
                  rw [q]
                  show ρ.set i (.t d') = ρ
                  apply List.ext_getElem?
                  intro m
                  by_cases c : m = i
                  · subst c
                    rw [List.getElem?_set_self (List.getElem?_eq_some_iff.mp q).1, q]
                  · rw [List.getElem?_set_ne (Ne.symm c)]
                | _ => cases hd2
            | _ => rfl
        have e3 : putOuts ρ (p :: ps) (o :: os) = putOuts ρ ps os := by show putOuts (putOut ρ p o) ps os = _; rw [same]
        rw [e3]
        exact putOuts_spec S hr h2 ho' hk nd j
    · have e2 : ioSlots ρ0 (.v i :: ps) = i :: ioSlots ρ0 ps := by show PD.io ρ0 _ ++ _ = _; rw [e]; rfl
      rw [e2] at nd ⊢
      obtain ⟨n1, n2⟩ := List.nodup_cons.mp nd
      cases outs with
      | nil => exact ho.elim
      | cons o' os =>
        obtain ⟨⟨co', a', u, rfl, ev, k1, k2, k3⟩, ho'⟩ := ho
        cases ev
        obtain ⟨s', co1, q1, q2⟩ := kind_cell (hk i) g1 g2
        have il : i < ρ.length := (List.getElem?_eq_some_iff.mp q1).1
        have eP : putOut ρ (.v i) (.p co') = ρ.set i (reCell s' co') := by
          show (match ρ[i]? with | some s => ρ.set i (reCell s co') | none => ρ) = _
          rw [q1]
        have hk' : ∀ j : Nat, kindS (ρ.set i (reCell s' co'))[j]? = kindS ρ0[j]? := fun m => by
          by_cases c : m = i
          · subst c
            rw [List.getElem?_set_self il, kind_reCell, ← q1]
            exact hk m
          · rw [List.getElem?_set_ne (Ne.symm c)]
            exact hk m
        have e3 : putOuts ρ (.v i :: ps) (.p co' :: os) = putOuts (ρ.set i (reCell s' co')) ps os := by show putOuts (putOut ρ (.v i) (.p co')) ps os = _; rw [eP]
        rw [e3]
        rcases putOuts_spec (ρ := ρ.set i (reCell s' co')) S hr h2 ho' hk' n2 j with ⟨m1, t, c1, c2, b, w, z1, z2, z3, z4⟩ | ⟨m1, z1⟩
        · have hj : j ≠ i := fun c => n1 (c ▸ m1)
          rw [List.getElem?_set_ne (Ne.symm hj)] at z1
          exact .inl ⟨List.mem_cons_of_mem _ m1, t, c1, c2, b, w, z1, z2, z3, z4⟩
        · by_cases c : j = i
          · subst c
            rw [List.getElem?_set_self il] at z1
            exact .inl ⟨List.mem_cons_self, s', co1, co', a, u, q1, q2, z1, h4, k1, k2, k3⟩
          · rw [List.getElem?_set_ne (Ne.symm c)] at z1
            exact .inr ⟨fun m => (List.mem_cons.mp m).elim c m1, z1⟩
/-- a callee is back: the cells that it was handed are told anew, all else is as it was -/
theorem StR.back (S : StR K mg B F ρ σ H) {vs : List V} {ps : List PD} {svs outs : List SV} (hv : PReps K mg F σ vs ps) (ha : argsD ρ ps = some svs) (nd : (ioSlots ρ ps).Nodup) (b : Back K mg F H F' H' vs svs outs) :
    StR K mg B F' (putOuts ρ ps outs) σ H' := by
  have spec := putOuts_spec S hv ha b.outs (fun _ => rfl) nd
  obtain ⟨io, _⟩ := args_io S hv ha
  have ioc : ∀ c ∈ ioAddr vs svs, (∃ i, B.C0 i = some c) ∨ B.H0 c = none := fun c hc => by
    obtain ⟨j, _, ⟨⟨s, co, e, h⟩, h2⟩⟩ := io c hc
    cases s with
    | no => simp [isCell] at h
    | t d => simp [isCell] at h
    | c co' => exact .inr (S.own j c co' e h2)
    | p co' =>
      obtain ⟨a, g1, g2⟩ := S.par j co' e
      rw [h2] at g1
      cases g1
      exact .inl ⟨j, g2⟩
  have newF : ∀ c, F c = none → H c ≠ none → F' c = none := fun c h1 h2 => by
    cases q : F' c with
    | none => rfl
    | some o => exact absurd (b.fresh c h1 (by rw [q]; simp)) h2
  -- a cell behind is a cell ahead
  have back : ∀ {j : Nat} {s : SV}, (putOuts ρ ps outs)[j]? = some s → (∃ s0 co co' a u, ρ[j]? = some s0 ∧ isCell s0 = some co ∧ s = reCell s0 co' ∧ σ[j]? = some (some (.ref a)) ∧ H' a = some u ∧ F' a = none ∧ COr K mg F' u co') ∨ (ρ[j]? = some s ∧ j ∉ ioSlots ρ ps) := fun {j s} e => by
    rcases spec j with ⟨m, s0, co, co', a, u, z1, z2, z3, z4, z5⟩ | ⟨m, z⟩
    · rw [e] at z3
      cases z3
      exact .inl ⟨s0, co, co', a, u, z1, z2, rfl, z4, z5⟩
    · rw [e] at z
      exact .inr ⟨z.symm, m⟩
  have backC : ∀ {j : Nat} {a : Addr}, CellAt (putOuts ρ ps outs) σ j a → CellAt ρ σ j a := fun {j a} ⟨⟨s, co, e, h⟩, h2⟩ => by
    rcases back e with ⟨s0, c0, c1, a', u, z1, z2, _⟩ | ⟨z, _⟩
    · exact ⟨⟨s0, c0, z1, z2⟩, h2⟩
    · exact ⟨⟨s, co, z, h⟩, h2⟩
  refine ⟨b.exD, S.ex0.trans b.ex, putOuts_length.trans S.len, fun j s e => ?_, fun i j a hi hj => S.apart i j a (backC hi) (backC hj), fun c h1 h2 => ?_, fun c o h n => ?_, fun j a o h1 h2 => ?_, fun j o h => ?_, S.pars, fun j a h => ?_⟩
  · rcases back e with ⟨s0, c0, co', a, u, z1, z2, rfl, z3, z4, z5, z6⟩ | ⟨z, hn⟩
    · have cr : CellR K mg F' H' σ[j]? co' := ⟨a, u, z3, z4, z5, z6⟩
      cases s0 with
      | no => simp [isCell] at z2
      | t d => simp [isCell] at z2
      | c co => exact cr
      | p co => exact cr
    · have w := S.slot j s z
      have cell : ∀ co, isCell s = some co → CellR K mg F H σ[j]? co → CellR K mg F' H' σ[j]? co := fun co hc ⟨a, u, g1, g2, g3, g4⟩ => by
        have na : a ∉ ioAddr vs svs := fun m => by
          obtain ⟨i, hi, hc'⟩ := io a m
          have := S.apart i j a hc' ⟨⟨s, co, z, hc⟩, g1⟩
          subst this
          exact hn hi
        exact ⟨a, u, g1, b.frame a u g2 na, newF a g3 (by rw [g2]; simp), g4.ext b.ex⟩
      cases s with
      | no => trivial
      | t d => obtain ⟨v, g1, g2⟩ := w; exact ⟨v, g1, g2.ext b.ex⟩
      | c co => exact cell co rfl w
      | p co => exact cell co rfl w
  · cases q : F c with
    | some o => exact S.fresh c h1 (by rw [q]; simp)
    | none => exact S.new0 (b.fresh c q h2)
  · have nio : c ∉ ioAddr vs svs := fun m => by
      rcases ioc c m with ⟨i, z⟩ | z
      · exact n i z
      · rw [z] at h; cases h
    rcases S.frame c o h n with z | ⟨z1, z2, ob, z3⟩
    · exact .inl (b.frame c o z nio)
    · exact .inr ⟨z1, z2, ob, b.frame c _ z3 nio⟩
  · rcases back h1 with ⟨s0, c0, co', a', u, z1, z2, z3, z4, _⟩ | ⟨z, _⟩
    · cases s0 with
      | c co => exact S.own j a co z1 h2
      | p co => cases z3
      | no => simp [isCell] at z2
      | t d => simp [isCell] at z2
    · exact S.own j a o z h2
  · rcases back h with ⟨s0, c0, co', a', u, z1, z2, z3, z4, _⟩ | ⟨z, _⟩
    · cases s0 with
      | p co => exact S.par j co z1
      | c co => cases z3
      | no => simp [isCell] at z2
      | t d => simp [isCell] at z2
    · exact S.par j o z
  · obtain ⟨g1, g2, g3, g4⟩ := S.parF j a h
    refine ⟨g1, newF a g2 g4, g3, ?_⟩
    by_cases m : a ∈ ioAddr vs svs
    · obtain ⟨i, hi, hc⟩ := io a m
      rcases spec i with ⟨_, s0, co, co', a', u, z1, z2, z3, z4, z5, _⟩ | ⟨n, _⟩
      · rw [hc.2] at z4
        cases z4
        rw [z5]
        simp
      · exact absurd hi n
    · cases q : H a with
      | none => exact absurd q g4
      | some o => rw [b.frame a o q m]; simp
end
end DL

/-! The data layer, 8: calls of defs, methods, classes. -/
namespace DL
open PySem PySem.Spec PyProof.Rows L2

/-! ### hand rules: what is raised is wished for at the caller's slots -/
section
variable {X : Cx} {CX : CXT} {k : Nat} {f C : Addr} {fd : FuncData} {ps : List Str} {sp : Sp} {dvs : List V} {ds : List Value} {E : L2.St → XK} {x m : Str} {p pos apos : Pos} {e o : Expr} {es : List Expr} {ta : TE} {t : TA}
theorem pe_callSD0 (F : FnOk X.prog X.w X.K X.mg X.base CX k f fd ps sp) (hr : Room k X.A) (hg : Gl X x) (hm : X.mg x = some (.ref f)) (hk : PySem.W.keepIn X.K (.ref f) = true) (hb : Binds X.K fd ps ds) (hd : Vals dvs ds) (hx : ∀ σ, PassesAt CX X σ (E σ))
    (hdb : (x == ("__debug__" : Str)) = false := by decide) : PE X (.Call (.Name x p) [] [] pos) (tCallSD sp dvs E tNil) := by
  refine ⟨fun pins s σ H Q I h => ?_⟩
  refine wpAny_Call_Name_kw (ld_glob I hg hm ?_ hdb)
  exact PySem.W.callWith_K0 I.kIn hk (run_fnSD (us := []) F hr hb hd (hx σ) I .nil h)
def tMethS (C : Addr) (m : Str) (sp : Sp) (dvs : List V) (E : L2.St → XK) (ta : TE) (t : TA) : TE := fun σ H Q => ta σ H fun x H1 => ∃ a dx fs, x = .ref a ∧ H1 a = some (.ins C dx fs) ∧ fs.lookup m = none ∧
  t σ H1 fun vs H2 => sp (x :: (vs ++ dvs)) H2 Q (E σ)
theorem pe_methSD {pl : Sem Bool} (he : PE X o ta) (c : Cls X.K C) (hm : Meth X.K C m f) (F : FnOk X.prog X.w X.K X.mg X.base CX k f fd ps sp) (hr : Room k X.A) (hb : Binds X.K fd ps ds) (hd : Vals dvs ds) (hx : ∀ σ, PassesAt CX X σ (E σ)) (ha : PA X (e :: es) t)
    (hst : starEach (e :: es) X.env = (false, eval e X.env) :: starEach es X.env := by rfl) (hpl : (backTo pos (starEach es X.env)).any (·.1) = false := by rfl)
    (ht : eval (.Call (.Attribute o m apos) (e :: es) [] pos) X.env = (do
      let ov ← eval o X.env
      standAt apos.atName
      let (f, first) ← holding [ov] (getMethod ov m pl)
      callWith pos f first (backTo pos (starEach (e :: es) X.env)) (backToKw pos (keywordEach [] X.env))) := by rfl) :
    PE X (.Call (.Attribute o m apos) (e :: es) [] pos) (tMethS C m sp dvs E ta t) := by
  refine ⟨fun pins s σ H Q I h => ?_⟩
  refine PySem.W.methodCall_KW (pl := pl) (thn (he.run pins s σ H _ I h) fun u s1 ⟨x, H1, I1, rx, a, dx, fs, ex, ea, l, q⟩ => ?_) ht
  subst ex
  obtain rfl : u = Value.ref a := rx
  refine getmeth_ok I1 ea c hm l ?_
  refine PySem.W.callWith_K (first := [.ref a]) (h₀ := X.base) I.ok.mod.kin hm.kp (thn (ha.run pos pins s1 σ H1 _ I1 q) fun us s2 ⟨vs, H2, I2, r, q2⟩ => ⟨I2.kIn, ?_⟩) hst hpl
  exact run_fnSD (us := .ref a :: us) (vs := .ref a :: vs) F hr hb hd (hx σ) I2 (.cons rfl r) q2
theorem pe_methSD0 {pl : Sem Bool} (he : PE X o ta) (c : Cls X.K C) (hm : Meth X.K C m f) (F : FnOk X.prog X.w X.K X.mg X.base CX k f fd ps sp) (hr : Room k X.A) (hb : Binds X.K fd ps ds) (hd : Vals dvs ds) (hx : ∀ σ, PassesAt CX X σ (E σ))
    (ht : eval (.Call (.Attribute o m apos) [] [] pos) X.env = (do
      let ov ← eval o X.env
      standAt apos.atName
      let (f, first) ← holding [ov] (getMethod ov m pl)
      callWith pos f first (backTo pos (starEach [] X.env)) (backToKw pos (keywordEach [] X.env))) := by rfl) :
    PE X (.Call (.Attribute o m apos) [] [] pos) (tMethS C m sp dvs E ta tNil) := by
  refine ⟨fun pins s σ H Q I h => ?_⟩
  refine PySem.W.methodCall_KW (pl := pl) (thn (he.run pins s σ H _ I h) fun u s1 ⟨x, H1, I1, rx, a, dx, fs, ex, ea, l, q⟩ => ?_) ht
  subst ex
  obtain rfl : u = Value.ref a := rx
  refine getmeth_ok I1 ea c hm l ?_
  exact PySem.W.callWith_K0 (first := [.ref a]) I1.kIn hm.kp (run_fnSD (us := [.ref a]) (vs := [.ref a]) F hr hb hd (hx σ) I1 (.cons rfl .nil) q)
def tMakeS (C : Addr) (sp : Sp) (dvs : List V) (E : L2.St → XK) (t : TA) : TE := fun σ H Q => t σ H fun vs H1 => ∀ x dx, H1 x = none → H1 dx = none → dx ≠ x →
  sp (.ref x :: (vs ++ dvs)) (upd (upd H1 dx (.own x)) x (.ins C dx [])) (fun v H2 => v = .non ∧ Q (.ref x) H2) (E σ)
theorem run_makeSD {pins : List (Addr × Obj)} {σ : L2.St} {H : Hp} {s : Shared} {Q : VK} {us : List Value} {vs : List V} (M : Mk X.K C f) (F : FnOk X.prog X.w X.K X.mg X.base CX k f fd ps sp) (hr : Room (k + 1) X.A) (hb : Binds X.K fd ps ds) (hd : Vals dvs ds)
    (hx : ∀ σ, PassesAt CX X σ (E σ)) (I : Inv X pins σ H s) (r : Vals vs us)
    (h : ∀ x dx, H x = none → H dx = none → dx ≠ x → sp (.ref x :: (vs ++ dvs)) (upd (upd H dx (.own x)) x (.ins C dx [])) (fun v H2 => v = .non ∧ Q (.ref x) H2) (E σ)) :
    wpAny (model X.prog X.w) X.A (call (.ref C) us) (EP X pins σ Q) X.xe s := by
  have hq := h (s.heap.objs.size + 1) s.heap.objs.size (I.hok.fresh (Nat.le_succ _)) (I.hok.fresh (Nat.le_refl _)) (Nat.ne_of_lt (Nat.lt_succ_self _))
  have I2 := Inv.made (C := C) I
  have r2 : Vals (V.ref (s.heap.objs.size + 1) :: (vs ++ dvs)) (Value.ref (s.heap.objs.size + 1) :: (us ++ ds)) := .cons rfl (r.append hd)
  have hl : (Value.ref (s.heap.objs.size + 1) :: us ++ ds).length = ps.length := by
    have e := r2.length
    rw [F.len _ _ _ _ hq] at e
    exact e.symm
  refine wpAny_call (make_map (f := f) I.kIn M.makes M.init (beq_iff_eq.mp M.fn) (codeAny_mono (F.run _ X.stack _ _ ⟨Value.ref (s.heap.objs.size + 1) :: us, []⟩ (Value.ref (s.heap.objs.size + 1) :: (us ++ ds)) _ _ (E σ) (hr.make C us [])
    (I2.env0.make C us []) (hb _ (Value.ref (s.heap.objs.size + 1) :: us) I2.kIn hl) r2 hq) fun r s' hq' => ?_))
  cases r with
  | error e => exact hx σ pins _ _ e s' I2 hq'
  | ok fl =>
    cases fl with
    | ret u =>
      obtain ⟨v, H', I3, rv, ev, q3⟩ := I2.after hq'
      subst ev
      exact ⟨rv, ⟨V.ref (s.heap.objs.size + 1), H', I3, rfl, q3⟩⟩
    | next => exact False.elim hq'
    | brk => exact False.elim hq'
    | cont => exact False.elim hq'
theorem pe_makeSD (M : Mk X.K C f) (F : FnOk X.prog X.w X.K X.mg X.base CX k f fd ps sp) (hr : Room (k + 1) X.A) (hg : Gl X x) (hm : X.mg x = some (.ref C)) (hb : Binds X.K fd ps ds) (hd : Vals dvs ds) (hx : ∀ σ, PassesAt CX X σ (E σ))
    (ha : PA X (e :: es) t) (hdb : (x == ("__debug__" : Str)) = false := by decide) (he : starEach (e :: es) X.env = (false, eval e X.env) :: starEach es X.env := by rfl) (hpl : (backTo pos (starEach es X.env)).any (·.1) = false := by rfl) :
    PE X (.Call (.Name x p) (e :: es) [] pos) (tMakeS C sp dvs E t) := by
  refine ⟨fun pins s σ H Q I h => ?_⟩
  refine wpAny_Call_Name_kw (ld_glob I hg hm ?_ hdb)
  refine PySem.W.callWith_K (h₀ := X.base) I.ok.mod.kin M.kp (thn (ha.run pos pins s σ H _ I h) fun us s1 ⟨vs, H1, I1, r, q⟩ => ⟨I1.kIn, ?_⟩) he hpl
  exact run_makeSD M F hr hb hd hx I1 r q
theorem pe_makeSD0 (M : Mk X.K C f) (F : FnOk X.prog X.w X.K X.mg X.base CX k f fd ps sp) (hr : Room (k + 1) X.A) (hg : Gl X x) (hm : X.mg x = some (.ref C)) (hb : Binds X.K fd ps ds) (hd : Vals dvs ds) (hx : ∀ σ, PassesAt CX X σ (E σ))
    (hdb : (x == ("__debug__" : Str)) = false := by decide) : PE X (.Call (.Name x p) [] [] pos) (tMakeS C sp dvs E tNil) := by
  refine ⟨fun pins s σ H Q I h => ?_⟩
  refine wpAny_Call_Name_kw (ld_glob I hg hm ?_ hdb)
  exact PySem.W.callWith_K0 I.kIn M.kp (run_makeSD (us := []) M F hr hb hd hx I .nil h)
end

/-! ### mirrors of calls -/
def ioOk (ρ : EnvD) (ps : List PD) : Bool := decide (ioSlots ρ ps).Nodup
def callRF (ar : Nat) (m : Mir) (ρ : EnvD) (ps : List PD) : RF := match argsD ρ ps with
  | none => .bad
  | some svs => if svs.length = ar then (if ioOk ρ ps = true then m svs else .bad) else .bad
def RF.toD (ρ : EnvD) (ps : List PD) : RF → Rs D
  | .ok d outs => .ok d (putOuts ρ ps outs)
  | .okN co outs => .ok co.d (putOuts ρ ps outs)
  | .ex c fs outs => .ex c fs (putOuts ρ ps outs)
  | .bad => .bad
def RF.toN (ρ : EnvD) (ps : List PD) : RF → Rs CO
  | .okN co outs => .ok co (putOuts ρ ps outs)
  | .ex c fs outs => .ex c fs (putOuts ρ ps outs)
  | _ => .bad
def callD (ar : Nat) (m : Mir) (dds : List D) (f : EnvD → Rs (List PD)) : EnvD → Rs D := fun ρ => (f ρ).bind fun ps ρ1 => (callRF ar m ρ1 (ps ++ dds.map .d)).toD ρ1 (ps ++ dds.map .d)
def callN (ar : Nat) (m : Mir) (dds : List D) (f : EnvD → Rs (List PD)) : EnvD → Rs CO := fun ρ => (f ρ).bind fun ps ρ1 => (callRF ar m ρ1 (ps ++ dds.map .d)).toN ρ1 (ps ++ dds.map .d)
section
variable {X : Cx} {W : WX} {B : Bs} {F : Hp} {σ : L2.St} {ρ : EnvD} {H : Hp}
theorem PReps.append : ∀ {vs ws : List V} {ps qs : List PD}, PReps X.K X.mg F σ vs ps → PReps X.K X.mg F σ ws qs → PReps X.K X.mg F σ (vs ++ ws) (ps ++ qs)
  | [], _, [], _, _, h => h
  | _ :: _, _, _ :: _, _, ⟨h1, h2⟩, h => ⟨h1, PReps.append h2 h⟩
  | [], _, _ :: _, _, h, _ => h.elim
  | _ :: _, _, [], _, h, _ => h.elim
theorem preps_d : ∀ {vs : List V} {ds : List D}, Reps X.K X.mg F vs ds → PReps X.K X.mg F σ vs (ds.map .d)
  | _, _, .nil => trivial
  | _, _, .cons h r => ⟨h, preps_d r⟩
/-- a call of a def with mirror m at operands ps: its promise, whatever is done with the result -/
theorem call_core {ar : Nat} {m : Mir} {vs : List V} {ps : List PD} {Q : VK} {E : XK} {r : RF} (S : StR X.K X.mg B F ρ σ H) (hv : PReps X.K X.mg F σ vs ps) (hr : callRF ar m ρ ps = r) (hb : r ≠ .bad)
    (z : ∀ svs, argsD ρ ps = some svs → (ioSlots ρ ps).Nodup → EndF X.K X.mg F H vs svs Q E r) : spD X.K X.mg ar m vs H Q E := by
  unfold callRF at hr
  cases ea : argsD ρ ps with
  | none => rw [ea] at hr; exact absurd hr.symm hb
  | some svs =>
    rw [ea] at hr
    simp only at hr
    split at hr
    · rename_i hl
      split at hr
      · rename_i hn
        have nd := of_decide_eq_true hn
        have ha := args_argsR S hv ea
        refine ⟨F, svs, by rw [ha.length]; exact hl, S.ex, ha, (args_io S hv ea).2 nd, ?_⟩
        rw [hr]
        exact z svs ea nd
      · exact absurd hr.symm hb
    · exact absurd hr.symm hb
/-- .. a datum comes back -/
theorem call_toD {ar : Nat} {m : Mir} {vs : List V} {ps : List PD} {Q : VK} (S : StR X.K X.mg B F ρ σ H) (hv : PReps X.K X.mg F σ vs ps) (z : EndG X.K X.mg B F σ W (PV X.K X.mg Q) ((callRF ar m ρ ps).toD ρ ps)) :
    spD X.K X.mg ar m vs H Q (WE W σ) := by
  refine call_core S hv rfl (fun e => by rw [e] at z; exact z.elim) fun svs ea nd => ?_
  cases q : callRF ar m ρ ps with
  | ok d outs =>
    rw [q] at z
    exact fun v F' H' b r => z F' H' (S.back hv ea nd b) b.ex v r
  | okN co outs =>
    rw [q] at z
    intro a F' H' b h1 h2 h3
    have S1 := S.back hv ea nd b
    have N : NewAt X.K X.mg B F' H' (putOuts ρ ps outs) σ a co := ⟨h1, h2, S.new0 h3, fun i hc => by
      rcases putOuts_spec S hv ea b.outs (fun _ => rfl) nd i with ⟨_, s, c, c', a', u, z1, z2, z3, z4, _⟩ | ⟨_, z1⟩
      · rw [hc.2] at z4
        cases z4
        exact S.newC h3 i ⟨⟨s, c, z1, z2⟩, hc.2⟩
      · obtain ⟨⟨s, c, g1, g2⟩, g3⟩ := hc
        rw [g1] at z1
        exact S.newC h3 i ⟨⟨s, c, z1.symm, g2⟩, g3⟩⟩
    obtain ⟨F2, S2, e2, r⟩ := S1.fz N
    exact z F2 H' S2 (b.ex.trans e2) _ r
  | ex c fs outs =>
    rw [q] at z
    exact fun cls dd F' H' b x => z cls dd F' H' (S.back hv ea nd b) b.ex x
  | bad => rw [q] at z; exact z.elim
/-- .. a new object -/
theorem call_toN {ar : Nat} {m : Mir} {vs : List V} {ps : List PD} {Q : VK} (S : StR X.K X.mg B F ρ σ H) (hv : PReps X.K X.mg F σ vs ps) (z : EndG X.K X.mg B F σ W (PN X.K X.mg B σ Q) ((callRF ar m ρ ps).toN ρ ps)) :
    spD X.K X.mg ar m vs H Q (WE W σ) := by
  refine call_core S hv rfl (fun e => by rw [e] at z; exact z.elim) fun svs ea nd => ?_
  cases q : callRF ar m ρ ps with
  | ok d outs => rw [q] at z; exact z.elim
  | okN co outs =>
    rw [q] at z
    intro a F' H' b h1 h2 h3
    refine z F' H' (S.back hv ea nd b) b.ex a ⟨h1, h2, S.new0 h3, fun i hc => ?_⟩
    rcases putOuts_spec S hv ea b.outs (fun _ => rfl) nd i with ⟨_, s, c, c', a', u, z1, z2, z3, z4, _⟩ | ⟨_, z1⟩
    · rw [hc.2] at z4
      cases z4
      exact S.newC h3 i ⟨⟨s, c, z1, z2⟩, hc.2⟩
    · obtain ⟨⟨s, c, g1, g2⟩, g3⟩ := hc
      rw [g1] at z1
      exact S.newC h3 i ⟨⟨s, c, z1.symm, g2⟩, g3⟩
  | ex c fs outs =>
    rw [q] at z
    exact fun cls dd F' H' b x => z cls dd F' H' (S.back hv ea nd b) b.ex x
  | bad => rw [q] at z; exact z.elim
end

/-! ### what is known of a def, of a class -/
section
variable (P : Program) (w : World) (K : PySem.W.Frag) (mg : Str → Option Value) (base : Heap)
/-- a def at f, with mirror m, ar parameters of which the last ones are filled up by dds -/
def Cal (f : Addr) (k ar : Nat) (m : Mir) (dds : List D) : Prop := ∃ (fd : FuncData) (ps : List Str) (ds : List Value) (dvs : List V), FnOk P w K mg base (L2.CX P w) k f fd ps (spD K mg ar m) ∧ Binds K fd ps ds ∧ Vals dvs ds ∧ ∀ F, Reps K mg F dvs dds
/-- x is the name of a def -/
def Fnd (x : Str) (k ar : Nat) (m : Mir) (dds : List D) : Prop := ∃ f, mg x = some (.ref f) ∧ PySem.W.keepIn K (.ref f) = true ∧ Cal P w K mg base f k ar m dds
/-- C is the name of a class, m' a method of it -/
def Mtd (C m' : Str) (k ar : Nat) (m : Mir) (dds : List D) : Prop := ∃ c f, mg C = some (.ref c) ∧ Cls K c ∧ Meth K c m' f ∧ Cal P w K mg base f k ar m dds
/-- C is the name of a class that can be made, its __init__ with mirror m -/
def Mkd (C : Str) (k ar : Nat) (m : Mir) (dds : List D) : Prop := ∃ c f, mg C = some (.ref c) ∧ Mk K c f ∧ Cal P w K mg base f k ar m dds
end
section
variable {X : Cx} {W : WX} {x C m' : Str} {k ar : Nat} {m : Mir} {dds : List D} {e o : Expr} {es : List Expr} {p pos apos : Pos} {fa : EnvD → Rs (List PD)} {fo : EnvD → Rs PD}
theorem tcall_D {sp : Sp} {dvs : List V} {t : TA} (sa : OASnd X W t fa) (hd : ∀ F, Reps X.K X.mg F dvs dds) : DSnd X W (tCallSD (spD X.K X.mg ar m) dvs (WE W) t) (callD ar m dds fa) := fun B F ρ σ H Q S z =>
  sa B F ρ σ H _ S (EndG.cont z fun ps ρ1 F1 H1 S1 e1 z1 vs hv => call_toD S1 (hv.append (preps_d (hd F1))) z1)
theorem tcall_N {sp : Sp} {dvs : List V} {t : TA} (sa : OASnd X W t fa) (hd : ∀ F, Reps X.K X.mg F dvs dds) : NSnd X W (tCallSD (spD X.K X.mg ar m) dvs (WE W) t) (callN ar m dds fa) := fun B F ρ σ H Q S z =>
  sa B F ρ σ H _ S (EndG.cont z fun ps ρ1 F1 H1 S1 e1 z1 vs hv => call_toN S1 (hv.append (preps_d (hd F1))) z1)
theorem de_call (h : Fnd X.prog X.w X.K X.mg X.base x k ar m dds) (hr : Room k X.A) (tk : Takes X W) (ha : OA X W (e :: es) fa) (hg : Gl X x := by rfl)
    (hdb : (x == ("__debug__" : Str)) = false := by decide) (he : starEach (e :: es) X.env = (false, eval e X.env) :: starEach es X.env := by rfl) (hpl : (backTo pos (starEach es X.env)).any (·.1) = false := by rfl) : DE X W (.Call (.Name x p) (e :: es) [] pos) (callD ar m dds fa) :=
  let ⟨f, hm, hk, fd, ps, ds, dvs, F, hb, hd, hf⟩ := h; let ⟨t, h1, s1⟩ := ha.ex; ⟨_, pe_callSD F hr hg hm hk hb hd (fun σ => passAt tk σ) h1 hdb he hpl, tcall_D (sp := spD X.K X.mg ar m) s1 hf⟩
theorem de_call0 (h : Fnd X.prog X.w X.K X.mg X.base x k ar m dds) (hr : Room k X.A) (tk : Takes X W) (hg : Gl X x := by rfl)
    (hdb : (x == ("__debug__" : Str)) = false := by decide) : DE X W (.Call (.Name x p) [] [] pos) (callD ar m dds oNil) :=
  let ⟨f, hm, hk, fd, ps, ds, dvs, F, hb, hd, hf⟩ := h; ⟨_, pe_callSD0 F hr hg hm hk hb hd (fun σ => passAt tk σ) hdb, tcall_D (sp := spD X.K X.mg ar m) (fun B F ρ σ H Q S z => z F H S (Ex.refl F) [] trivial) hf⟩
theorem ne_call (h : Fnd X.prog X.w X.K X.mg X.base x k ar m dds) (hr : Room k X.A) (tk : Takes X W) (ha : OA X W (e :: es) fa) (hg : Gl X x := by rfl)
    (hdb : (x == ("__debug__" : Str)) = false := by decide) (he : starEach (e :: es) X.env = (false, eval e X.env) :: starEach es X.env := by rfl) (hpl : (backTo pos (starEach es X.env)).any (·.1) = false := by rfl) : NE X W (.Call (.Name x p) (e :: es) [] pos) (callN ar m dds fa) :=
  let ⟨f, hm, hk, fd, ps, ds, dvs, F, hb, hd, hf⟩ := h; let ⟨t, h1, s1⟩ := ha.ex; ⟨_, pe_callSD F hr hg hm hk hb hd (fun σ => passAt tk σ) h1 hdb he hpl, tcall_N (sp := spD X.K X.mg ar m) s1 hf⟩
theorem ne_call0 (h : Fnd X.prog X.w X.K X.mg X.base x k ar m dds) (hr : Room k X.A) (tk : Takes X W) (hg : Gl X x := by rfl)
    (hdb : (x == ("__debug__" : Str)) = false := by decide) : NE X W (.Call (.Name x p) [] [] pos) (callN ar m dds oNil) :=
  let ⟨f, hm, hk, fd, ps, ds, dvs, F, hb, hd, hf⟩ := h; ⟨_, pe_callSD0 F hr hg hm hk hb hd (fun σ => passAt tk σ) hdb, tcall_N (sp := spD X.K X.mg ar m) (fun B F ρ σ H Q S z => z F H S (Ex.refl F) [] trivial) hf⟩

/-! ### methods -/
/-- the receiver: an instance of the class C that has no attribute m' -/
def recvOk (C m' : Str) : Option D → Bool
  | some (.ins nm fs) => nm == C && (fs.lookup m').isNone
  | _ => false
def methRF {α : Type} (C m' : Str) (fo : EnvD → Rs PD) (fa : EnvD → Rs (List PD)) (g : List PD → EnvD → Rs α) : EnvD → Rs α := fun ρ => (fo ρ).bind fun p ρ1 => if recvOk C m' (p.get ρ1) = true then (fa ρ1).bind fun ps ρ2 => g (p :: ps) ρ2 else .bad
def methD (C m' : Str) (ar : Nat) (m : Mir) (dds : List D) (fo : EnvD → Rs PD) (fa : EnvD → Rs (List PD)) : EnvD → Rs D := methRF C m' fo fa fun ps ρ => (callRF ar m ρ (ps ++ dds.map .d)).toD ρ (ps ++ dds.map .d)
def methN (C m' : Str) (ar : Nat) (m : Mir) (dds : List D) (fo : EnvD → Rs PD) (fa : EnvD → Rs (List PD)) : EnvD → Rs CO := methRF C m' fo fa fun ps ρ => (callRF ar m ρ (ps ++ dds.map .d)).toN ρ (ps ++ dds.map .d)
theorem meth_snd {α : Type} {P : α → EnvD → Hp → Hp → Prop} {g : List PD → EnvD → Rs α} {ta : TE} {t : TA} {c : Addr} (hc : X.mg C = some (.ref c)) (so : OSnd X W ta fo) (sa : OASnd X W t fa) {B : Bs} {F : Hp} {ρ : EnvD} {σ : L2.St} {H : Hp} {R : List V → Hp → Prop} (S : StR X.K X.mg B F ρ σ H)
    (z : EndG X.K X.mg B F σ W P (methRF C m' fo fa g ρ)) (k : ∀ vs ps ρ2 F2 H2, StR X.K X.mg B F2 ρ2 σ H2 → PReps X.K X.mg F2 σ vs ps → EndG X.K X.mg B F2 σ W P (g ps ρ2) → R vs H2) :
    ta σ H fun x H1 => ∃ a dx fs, x = .ref a ∧ H1 a = some (.ins c dx fs) ∧ fs.lookup m' = none ∧ t σ H1 fun vs H2 => R (x :: vs) H2 :=
  so B F ρ σ H _ S (EndG.cont z fun p ρ1 F1 H1 S1 e1 z1 v hv => by
    cases q : recvOk C m' (p.get ρ1) with
    | false => rw [q] at z1; exact z1.elim
    | true =>
      rw [q, if_pos rfl] at z1
      cases g1 : p.get ρ1 with
      | none => rw [g1] at q; cases q
      | some d =>
        have rv := hv.get S1 g1
        rw [g1] at q
        cases d with
        | ins nm gs =>
          simp only [recvOk, Bool.and_eq_true, beq_iff_eq, Option.isNone_iff_eq_none] at q
          obtain ⟨rfl, q2⟩ := q
          obtain ⟨a, c', dx, fs, rfl, h1, h2, h3⟩ := rv.ins S1.ex
          rw [hc] at h2
          cases h2
          refine ⟨a, dx, fs, rfl, h1, h3.lookup_none q2, sa B F1 ρ1 σ H1 _ S1 (EndG.cont z1 fun ps ρ2 F2 H2 S2 e2 z2 vs hvs => ?_)⟩
          exact k _ (p :: ps) ρ2 F2 H2 S2 ⟨hv.ext e2, hvs⟩ z2
        | _ => cases q)
theorem de_meth {pl : Sem Bool} (h : Mtd X.prog X.w X.K X.mg X.base C m' k ar m dds) (hr : Room k X.A) (tk : Takes X W) (ho : OE X W o fo) (ha : OA X W (e :: es) fa)
    (hst : starEach (e :: es) X.env = (false, eval e X.env) :: starEach es X.env := by rfl) (hpl : (backTo pos (starEach es X.env)).any (·.1) = false := by rfl)
    (ht : eval (.Call (.Attribute o m' apos) (e :: es) [] pos) X.env = (do
      let ov ← eval o X.env
      standAt apos.atName
      let (f, first) ← holding [ov] (getMethod ov m' pl)
      callWith pos f first (backTo pos (starEach (e :: es) X.env)) (backToKw pos (keywordEach [] X.env))) := by rfl) : DE X W (.Call (.Attribute o m' apos) (e :: es) [] pos) (methD C m' ar m dds fo fa) := by
  obtain ⟨c, f, hc, cl, hm, fd, ps, ds, dvs, F, hb, hd, hf⟩ := h
  obtain ⟨to, ho, so⟩ := ho.ex
  obtain ⟨t, ha, sa⟩ := ha.ex
  refine ⟨_, pe_methSD ho cl hm F hr hb hd (fun σ => passAt tk σ) ha hst hpl ht, fun B F0 ρ σ H Q S z => ?_⟩
  exact meth_snd (R := fun vs H2 => spD X.K X.mg ar m (vs ++ dvs) H2 Q (WE W σ)) hc so sa S z fun vs ps ρ2 F2 H2 S2 hv z2 => call_toD S2 (hv.append (preps_d (hf F2))) z2
theorem ne_meth {pl : Sem Bool} (h : Mtd X.prog X.w X.K X.mg X.base C m' k ar m dds) (hr : Room k X.A) (tk : Takes X W) (ho : OE X W o fo) (ha : OA X W (e :: es) fa)
    (hst : starEach (e :: es) X.env = (false, eval e X.env) :: starEach es X.env := by rfl) (hpl : (backTo pos (starEach es X.env)).any (·.1) = false := by rfl)
    (ht : eval (.Call (.Attribute o m' apos) (e :: es) [] pos) X.env = (do
      let ov ← eval o X.env
      standAt apos.atName
      let (f, first) ← holding [ov] (getMethod ov m' pl)
      callWith pos f first (backTo pos (starEach (e :: es) X.env)) (backToKw pos (keywordEach [] X.env))) := by rfl) : NE X W (.Call (.Attribute o m' apos) (e :: es) [] pos) (methN C m' ar m dds fo fa) := by
  obtain ⟨c, f, hc, cl, hm, fd, ps, ds, dvs, F, hb, hd, hf⟩ := h
  obtain ⟨to, ho, so⟩ := ho.ex
  obtain ⟨t, ha, sa⟩ := ha.ex
  refine ⟨_, pe_methSD ho cl hm F hr hb hd (fun σ => passAt tk σ) ha hst hpl ht, fun B F0 ρ σ H Q S z => ?_⟩
  exact meth_snd (R := fun vs H2 => spD X.K X.mg ar m (vs ++ dvs) H2 Q (WE W σ)) hc so sa S z fun vs ps ρ2 F2 H2 S2 hv z2 => call_toN S2 (hv.append (preps_d (hf F2))) z2
theorem oNil_snd : OASnd X W tNil oNil := fun B F ρ σ H Q S z => z F H S (Ex.refl F) [] trivial
theorem de_meth0 {pl : Sem Bool} (h : Mtd X.prog X.w X.K X.mg X.base C m' k ar m dds) (hr : Room k X.A) (tk : Takes X W) (ho : OE X W o fo)
    (ht : eval (.Call (.Attribute o m' apos) [] [] pos) X.env = (do
      let ov ← eval o X.env
      standAt apos.atName
      let (f, first) ← holding [ov] (getMethod ov m' pl)
      callWith pos f first (backTo pos (starEach [] X.env)) (backToKw pos (keywordEach [] X.env))) := by rfl) : DE X W (.Call (.Attribute o m' apos) [] [] pos) (methD C m' ar m dds fo oNil) := by
  obtain ⟨c, f, hc, cl, hm, fd, ps, ds, dvs, F, hb, hd, hf⟩ := h
  obtain ⟨to, ho, so⟩ := ho.ex
  refine ⟨_, pe_methSD0 ho cl hm F hr hb hd (fun σ => passAt tk σ) ht, fun B F0 ρ σ H Q S z => ?_⟩
  exact meth_snd (R := fun vs H2 => spD X.K X.mg ar m (vs ++ dvs) H2 Q (WE W σ)) hc so oNil_snd S z fun vs ps ρ2 F2 H2 S2 hv z2 => call_toD S2 (hv.append (preps_d (hf F2))) z2
theorem ne_meth0 {pl : Sem Bool} (h : Mtd X.prog X.w X.K X.mg X.base C m' k ar m dds) (hr : Room k X.A) (tk : Takes X W) (ho : OE X W o fo)
    (ht : eval (.Call (.Attribute o m' apos) [] [] pos) X.env = (do
      let ov ← eval o X.env
      standAt apos.atName
      let (f, first) ← holding [ov] (getMethod ov m' pl)
      callWith pos f first (backTo pos (starEach [] X.env)) (backToKw pos (keywordEach [] X.env))) := by rfl) : NE X W (.Call (.Attribute o m' apos) [] [] pos) (methN C m' ar m dds fo oNil) := by
  obtain ⟨c, f, hc, cl, hm, fd, ps, ds, dvs, F, hb, hd, hf⟩ := h
  obtain ⟨to, ho, so⟩ := ho.ex
  refine ⟨_, pe_methSD0 ho cl hm F hr hb hd (fun σ => passAt tk σ) ht, fun B F0 ρ σ H Q S z => ?_⟩
  exact meth_snd (R := fun vs H2 => spD X.K X.mg ar m (vs ++ dvs) H2 Q (WE W σ)) hc so oNil_snd S z fun vs ps ρ2 F2 H2 S2 hv z2 => call_toN S2 (hv.append (preps_d (hf F2))) z2
end

/-! ### a temporary slot behind the others -/
section
variable {K : PySem.W.Frag} {mg : Str → Option Value} {B : Bs} {F : Hp} {σ : L2.St} {ρ : EnvD} {H : Hp} {a : Addr} {co : CO}
theorem get_snoc {α : Type} {l : List α} {x y : α} {i : Nat} (h : (l ++ [x])[i]? = some y) : (i = l.length ∧ y = x) ∨ (i < l.length ∧ l[i]? = some y) := by
  by_cases c : i < l.length
  · rw [List.getElem?_append_left c] at h
    exact .inr ⟨c, h⟩
  · have e : i = l.length := by
      have := (List.getElem?_eq_some_iff.mp h).1
      simp at this
      omega
    subst e
    simp at h
    exact .inl ⟨rfl, h.symm⟩
theorem snoc_get {α : Type} {l : List α} {x : α} : (l ++ [x])[l.length]? = some x := by simp
theorem StR.push (S : StR K mg B F ρ σ H) (N : NewAt K mg B F H ρ σ a co) : StR K mg B F (ρ ++ [.c co]) (σ ++ [some (.ref a)]) H := by
  obtain ⟨⟨o, ha, hr⟩, nF, n0, nC⟩ := N
  have sg : ∀ {i : Nat}, i < ρ.length → (σ ++ [some (.ref a)])[i]? = σ[i]? := fun {i} h => List.getElem?_append_left (by rw [← S.len]; exact h)
  have sl : (σ ++ [some (V.ref a)])[ρ.length]? = some (some (.ref a)) := by rw [S.len]; simp
  have back : ∀ {i : Nat} {b : Addr}, CellAt (ρ ++ [.c co]) (σ ++ [some (.ref a)]) i b → (i = ρ.length ∧ b = a) ∨ (i < ρ.length ∧ CellAt ρ σ i b) := fun {i b} ⟨⟨s, c', q, hc⟩, q2⟩ => by
    rcases get_snoc q with ⟨rfl, rfl⟩ | ⟨h, q⟩
    · rw [sl] at q2
      cases q2
      exact .inl ⟨rfl, rfl⟩
    · rw [sg h] at q2
      exact .inr ⟨h, ⟨s, c', q, hc⟩, q2⟩
  refine ⟨S.ex, S.ex0, by simp [S.len], fun i s q => ?_, fun i j b hi hj => ?_, S.fresh, S.frame, fun i b o' q1 q2 => ?_, fun i o' q => ?_, S.pars, S.parF⟩
  · rcases get_snoc q with ⟨rfl, rfl⟩ | ⟨h, q⟩
    · exact ⟨a, o, sl, ha, nF, hr⟩
    · have z := S.slot i s q
      rw [sg h]
      exact z
  · rcases back hi with ⟨e1, e2⟩ | ⟨_, c1⟩
    · rcases back hj with ⟨g1, g2⟩ | ⟨_, c2⟩
      · rw [e1, g1]
      · exact absurd (e2 ▸ c2) (nC j)
    · rcases back hj with ⟨g1, g2⟩ | ⟨_, c2⟩
      · exact absurd (g2 ▸ c1) (nC i)
      · exact S.apart i j b c1 c2
  · rcases get_snoc q1 with ⟨rfl, z⟩ | ⟨h, q1⟩
    · rw [sl] at q2
      cases q2
      exact n0
    · rw [sg h] at q2
      exact S.own i b o' q1 q2
  · rcases get_snoc q with ⟨rfl, z⟩ | ⟨h, q⟩
    · cases z
    · rw [sg h]
      exact S.par i o' q
theorem StR.pop (S : StR K mg B F (ρ ++ [.c co]) (σ ++ [some (.ref a)]) H) : StR K mg B F ρ σ H ∧ NewAt K mg B F H ρ σ a co := by
  have hl : ρ.length = σ.length := by simpa using S.len
  have sg : ∀ {i : Nat}, i < ρ.length → (σ ++ [some (.ref a)])[i]? = σ[i]? := fun {i} h => List.getElem?_append_left (by rw [← hl]; exact h)
  have rg : ∀ {i : Nat}, i < ρ.length → (ρ ++ [SV.c co])[i]? = ρ[i]? := fun {i} h => List.getElem?_append_left h
  have sl : (σ ++ [some (V.ref a)])[ρ.length]? = some (some (.ref a)) := by rw [hl]; simp
  have rl : (ρ ++ [SV.c co])[ρ.length]? = some (.c co) := snoc_get
  have lt : ∀ {i : Nat} {s : SV}, ρ[i]? = some s → i < ρ.length := fun h => (List.getElem?_eq_some_iff.mp h).1
  have up : ∀ {i : Nat} {b : Addr}, CellAt ρ σ i b → CellAt (ρ ++ [.c co]) (σ ++ [some (.ref a)]) i b := fun {i b} ⟨⟨s, c', q, hc⟩, q2⟩ => ⟨⟨s, c', by rw [rg (lt q)]; exact q, hc⟩, by rw [sg (lt q)]; exact q2⟩
  obtain ⟨a', o, h1, h2, h3, h4, h5⟩ := S.cell rl rfl
  rw [sl] at h1
  cases h1
  refine ⟨⟨S.ex, S.ex0, hl, fun i s q => ?_, fun i j b hi hj => S.apart i j b (up hi) (up hj), S.fresh, S.frame, fun i b o' q1 q2 => ?_, fun i o' q => ?_, S.pars, S.parF⟩, ⟨⟨o, h2, h4⟩, h3, S.own _ a co rl sl, fun i hc => ?_⟩⟩
  · have z := S.slot i s (by rw [rg (lt q)]; exact q)
    rw [sg (lt q)] at z
    exact z
  · exact S.own i b o' (by rw [rg (lt q1)]; exact q1) (by rw [sg (lt q1)]; exact q2)
  · have z := S.par i o' (by rw [rg (lt q)]; exact q)
    rw [sg (lt q)] at z
    exact z
  · have := S.apart i ρ.length a (up hc) h5
    have := cell_lt hc
    omega
theorem arg_snoc {s : SV} {p : PD} {t : SV} (h : p.arg ρ = some t) : p.arg (ρ ++ [s]) = some t ∧ p.io (ρ ++ [s]) = p.io ρ := by
  cases p with
  | d x => exact ⟨h, rfl⟩
  | v i =>
    have hl : i < ρ.length := by
      cases e : ρ[i]? with
      | none => simp only [PD.arg, e] at h; cases h
      | some y => exact (List.getElem?_eq_some_iff.mp e).1
    have e := List.getElem?_append_left (l₂ := [s]) hl
    constructor
    · simp only [PD.arg, e] at h ⊢; exact h
    · simp only [PD.io, e]
theorem args_snoc {s : SV} : ∀ {ps : List PD} {ss : List SV}, argsD ρ ps = some ss → argsD (ρ ++ [s]) ps = some ss ∧ ioSlots (ρ ++ [s]) ps = ioSlots ρ ps
  | [], _, h => ⟨h, rfl⟩
  | p :: ps, ss, h => by
    obtain ⟨t, ts, h1, h2, rfl⟩ := args_cons h
    obtain ⟨g1, g2⟩ := arg_snoc (s := s) h1
    obtain ⟨g3, g4⟩ := args_snoc (s := s) h2
    refine ⟨?_, ?_⟩
    · unfold argsD
      rw [g1, g3]
    · show p.io _ ++ ioSlots _ ps = p.io ρ ++ ioSlots ρ ps
      rw [g2, g4]
/-- operands whose slots are there -/
def InR (ρ : EnvD) (ps : List PD) : Prop := ∀ p ∈ ps, match p with
  | .v i => i < ρ.length
  | .d _ => True
theorem args_inR : ∀ {ps : List PD} {ss : List SV}, argsD ρ ps = some ss → InR ρ ps
  | [], _, _ => fun p h => by cases h
  | p :: ps, ss, h => fun q hq => by
    obtain ⟨t, ts, h1, h2, rfl⟩ := args_cons h
    rcases List.mem_cons.mp hq with rfl | hq
    · cases q with
      | d x => trivial
      | v i =>
        show i < ρ.length
        cases e : ρ[i]? with
        | none => simp only [PD.arg, e] at h1; cases h1
        | some y => exact (List.getElem?_eq_some_iff.mp e).1
    · exact args_inR h2 q hq
theorem putOuts_snoc {s : SV} : ∀ {ps : List PD} {os : List SV} {ρ : EnvD}, InR ρ ps → putOuts (ρ ++ [s]) ps os = putOuts ρ ps os ++ [s]
  | [], os, ρ, _ => by cases os <;> rfl
  | _ :: _, [], ρ, _ => rfl
  | p :: ps, o :: os, ρ, h => by
    have hp := h p List.mem_cons_self
    have e : putOut (ρ ++ [s]) p o = putOut ρ p o ++ [s] := by
      cases p with
      | d x => rfl
      | v i =>
        have hp : i < ρ.length := hp
        cases o with
        | p co =>
          show (match (ρ ++ [s])[i]? with | some s' => (ρ ++ [s]).set i (reCell s' co) | none => ρ ++ [s]) = (match ρ[i]? with | some s' => ρ.set i (reCell s' co) | none => ρ) ++ [s]
          rw [List.getElem?_append_left hp, List.getElem?_eq_getElem hp]
          simp only
          rw [List.set_append_left _ _ hp]
        | _ => rfl
    show putOuts (putOut (ρ ++ [s]) p o) ps os = putOuts (putOut ρ p o) ps os ++ [s]
    rw [e]
    exact putOuts_snoc fun q hq => by
      have := h q (List.mem_cons_of_mem _ hq)
      cases q with
      | d x => trivial
      | v i => show i < (putOut ρ p o).length; rw [putOut_length]; exact this
end

/-! ### a class is called -/
def makeRF (C : Str) (ar : Nat) (m : Mir) (ρ : EnvD) (ps : List PD) : RF := match argsD ρ ps with
  | none => .bad
  | some svs => if svs.length + 1 = ar then (if ioOk ρ ps = true then m (.p (.ins C []) :: svs) else .bad) else .bad
def RF.toMk (ρ : EnvD) (ps : List PD) : RF → Rs CO
  | .ok .non (.p co :: outs) => .ok co (putOuts ρ ps outs)
  | .ex c fs (_ :: outs) => .ex c fs (putOuts ρ ps outs)
  | _ => .bad
def makeN (C : Str) (ar : Nat) (m : Mir) (dds : List D) (f : EnvD → Rs (List PD)) : EnvD → Rs CO := fun ρ => (f ρ).bind fun ps ρ1 => (makeRF C ar m ρ1 (ps ++ dds.map .d)).toMk ρ1 (ps ++ dds.map .d)
section
variable {X : Cx} {W : WX} {B : Bs} {F : Hp} {σ : L2.St} {ρ : EnvD} {H : Hp} {C : Str} {k ar : Nat} {m : Mir}
theorem outs_head {F' H' : Hp} {a : Addr} {vs : List V} {co : CO} {ss os : List SV} (h : OutsR X.K X.mg F' H' (.ref a :: vs) (.p co :: ss) os) : ∃ co' os', os = .p co' :: os' := by
  cases os with
  | nil => exact h.elim
  | cons o os' =>
    obtain ⟨⟨co', _, _, rfl, _⟩, _⟩ := h
    exact ⟨co', os', rfl⟩
theorem preps_snoc {z : Option V} (hl : ρ.length = σ.length) : ∀ {vs : List V} {ps : List PD}, InR ρ ps → PReps X.K X.mg F σ vs ps → PReps X.K X.mg F (σ ++ [z]) vs ps
  | [], [], _, h => h
  | v :: vs, q :: qs, inr, ⟨g1, g2⟩ => by
    refine ⟨?_, preps_snoc hl (fun q hq => inr q (List.mem_cons_of_mem _ hq)) g2⟩
    have hi := inr q List.mem_cons_self
    cases q with
    | d x => exact g1
    | v i =>
      show (σ ++ [z])[i]? = some (some v)
      rw [List.getElem?_append_left (by rw [← hl]; exact hi)]
      exact g1
  | [], _ :: _, _, h => h.elim
  | _ :: _, [], _, h => h.elim
theorem make_core {vs : List V} {ps : List PD} {Q : VK} {c x dx : Addr} (hc : X.mg C = some (.ref c)) (S : StR X.K X.mg B F ρ σ H) (hv : PReps X.K X.mg F σ vs ps) (hx : H x = none) (hdx : H dx = none) (hne : dx ≠ x)
    (z : EndG X.K X.mg B F σ W (PN X.K X.mg B σ Q) ((makeRF C ar m ρ ps).toMk ρ ps)) :
    spD X.K X.mg ar m (.ref x :: vs) (upd (upd H dx (.own x)) x (.ins c dx [])) (fun v H2 => v = .non ∧ Q (.ref x) H2) (WE W σ) := by
  have S1 : StR X.K X.mg B F ρ σ (upd H dx (.own x)) := S.grow (Ex.new hdx)
  have hx1 : upd H dx (.own x) x = none := by rw [upd_ne (Ne.symm hne)]; exact hx
  obtain ⟨S2, N⟩ := S1.newAt (o := .ins c dx []) (co := .ins C []) hx1 (.ins hc .nil)
  have S3 := S2.push N
  cases ea : argsD ρ ps with
  | none => unfold makeRF at z; rw [ea] at z; exact z.elim
  | some svs =>
    have hq : makeRF C ar m ρ ps = (if svs.length + 1 = ar then (if ioOk ρ ps = true then m (.p (.ins C []) :: svs) else .bad) else .bad) := by unfold makeRF; rw [ea]
    rw [hq] at z
    by_cases hl : svs.length + 1 = ar
    · rw [if_pos hl] at z
      by_cases hio : ioOk ρ ps = true
      · rw [if_pos hio] at z
        have nd := of_decide_eq_true hio
        obtain ⟨ea2, eio⟩ := args_snoc (s := .c (.ins C [])) ea
        have inr := args_inR ea
        have hl0 : (ρ ++ [SV.c (.ins C [])])[ρ.length]? = some (.c (.ins C [])) := snoc_get
        have ea3 : argsD (ρ ++ [.c (.ins C [])]) (.v ρ.length :: ps) = some (.p (.ins C []) :: svs) := by
          unfold argsD
          have : PD.arg (ρ ++ [.c (.ins C [])]) (.v ρ.length) = some (.p (.ins C [])) := by simp only [PD.arg, hl0]
          rw [this, ea2]
        have eio3 : ioSlots (ρ ++ [.c (.ins C [])]) (.v ρ.length :: ps) = ρ.length :: ioSlots ρ ps := by
          show PD.io _ _ ++ ioSlots _ ps = _
          rw [eio]
          simp only [PD.io, hl0]
          rfl
        have ltio : ∀ {qs : List PD}, InR ρ qs → ∀ j ∈ ioSlots ρ qs, j < ρ.length := fun {qs} => by
          induction qs with
          | nil => intro _ j hj; simp [ioSlots] at hj
          | cons q qs ih =>
            intro hi j hj
            have hj : j ∈ q.io ρ ++ ioSlots ρ qs := hj
            rcases List.mem_append.mp hj with hj | hj
            · have hi' := hi q List.mem_cons_self
              cases q with
              | d x => simp [PD.io] at hj
              | v i =>
                have : j = i := by
                  simp only [PD.io] at hj
                  split at hj <;> simp at hj <;> exact hj
                rw [this]
                exact hi'
            · exact ih (fun q hq => hi q (List.mem_cons_of_mem _ hq)) j hj
        have nd3 : (ioSlots (ρ ++ [.c (.ins C [])]) (.v ρ.length :: ps)).Nodup := by
          rw [eio3]
          exact List.nodup_cons.mpr ⟨fun hm => Nat.lt_irrefl _ (ltio inr _ hm), nd⟩
        have hv3 : PReps X.K X.mg F (σ ++ [some (.ref x)]) (.ref x :: vs) (.v ρ.length :: ps) := by
          refine ⟨?_, ?_⟩
          · show (σ ++ [some (V.ref x)])[ρ.length]? = some (some (.ref x))
            rw [S.len]
            simp
          · exact preps_snoc S.len inr hv
        have ha := args_argsR S3 hv3 ea3
        refine ⟨F, .p (.ins C []) :: svs, by rw [ha.length]; exact hl, S3.ex, ha, (args_io S3 hv3 ea3).2 nd3, ?_⟩
        have done : ∀ {F' H' : Hp} {outs : List SV}, Back X.K X.mg F (upd (upd H dx (.own x)) x (.ins c dx [])) F' H' (.ref x :: vs) (.p (.ins C []) :: svs) outs → ∃ co' outs', outs = .p co' :: outs' ∧ StR X.K X.mg B F' (putOuts ρ ps outs') σ H' ∧ NewAt X.K X.mg B F' H' (putOuts ρ ps outs') σ x co' := fun {F' H' outs} b => by
          obtain ⟨co', os', rfl⟩ := outs_head b.outs
          have S4 := S3.back hv3 ea3 nd3 b
          have e1 : putOuts (ρ ++ [.c (.ins C [])]) (.v ρ.length :: ps) (.p co' :: os') = putOuts ρ ps os' ++ [.c co'] := by
            show putOuts (putOut (ρ ++ [.c (.ins C [])]) (.v ρ.length) (.p co')) ps os' = _
            have : putOut (ρ ++ [.c (.ins C [])]) (.v ρ.length) (.p co') = ρ ++ [.c co'] := by
              show (match (ρ ++ [SV.c (.ins C [])])[ρ.length]? with | some s => (ρ ++ [SV.c (.ins C [])]).set ρ.length (reCell s co') | none => ρ ++ [SV.c (.ins C [])]) = _
              rw [hl0]
              simp [reCell]
            rw [this]
            exact putOuts_snoc inr
          rw [e1] at S4
          obtain ⟨S5, N5⟩ := S4.pop
          exact ⟨co', os', rfl, S5, N5⟩
        cases q : m (.p (.ins C []) :: svs) with
        | bad => rw [q] at z; exact z.elim
        | okN co outs => rw [q] at z; exact z.elim
        | ex c' fs outs =>
          intro cls dd F' H' b xr
          obtain ⟨co', outs', rfl, S5, N5⟩ := done b
          rw [q] at z
          exact z cls dd F' H' S5 b.ex xr
        | ok d outs =>
          intro v F' H' b r
          obtain ⟨co', outs', rfl, S5, N5⟩ := done b
          rw [q] at z
          cases d with
          | non => cases r; exact ⟨rfl, z F' H' S5 b.ex x N5⟩
          | _ => exact z.elim
      · rw [if_neg hio] at z; exact z.elim
    · rw [if_neg hl] at z; exact z.elim
variable {dds : List D} {e : Expr} {es : List Expr} {p pos : Pos} {fa : EnvD → Rs (List PD)}
theorem ne_make (h : Mkd X.prog X.w X.K X.mg X.base C k ar m dds) (hr : Room (k + 1) X.A) (tk : Takes X W) (ha : OA X W (e :: es) fa) (hg : Gl X C := by rfl)
    (hdb : (C == ("__debug__" : Str)) = false := by decide) (he : starEach (e :: es) X.env = (false, eval e X.env) :: starEach es X.env := by rfl) (hpl : (backTo pos (starEach es X.env)).any (·.1) = false := by rfl) : NE X W (.Call (.Name C p) (e :: es) [] pos) (makeN C ar m dds fa) := by
  obtain ⟨c, f, hc, M, fd, ps, ds, dvs, F, hb, hd, hf⟩ := h
  obtain ⟨t, h1, s1⟩ := ha.ex
  refine ⟨_, pe_makeSD M F hr hg hc hb hd (fun σ => passAt tk σ) h1 hdb he hpl, fun B F ρ σ H Q S z => ?_⟩
  exact s1 B F ρ σ H _ S (EndG.cont z fun ps ρ1 F1 H1 S1 e1 z1 vs hv x dx h2 h3 h4 => make_core hc S1 (hv.append (preps_d (hf F1))) h2 h3 h4 z1)
theorem ne_make0 (h : Mkd X.prog X.w X.K X.mg X.base C k ar m dds) (hr : Room (k + 1) X.A) (tk : Takes X W) (hg : Gl X C := by rfl)
    (hdb : (C == ("__debug__" : Str)) = false := by decide) : NE X W (.Call (.Name C p) [] [] pos) (makeN C ar m dds oNil) := by
  obtain ⟨c, f, hc, M, fd, ps, ds, dvs, F, hb, hd, hf⟩ := h
  refine ⟨_, pe_makeSD0 M F hr hg hc hb hd (fun σ => passAt tk σ) hdb, fun B F ρ σ H Q S z => ?_⟩
  exact oNil_snd B F ρ σ H _ S (EndG.cont z fun ps ρ1 F1 H1 S1 e1 z1 vs hv x dx h2 h3 h4 => make_core hc S1 (hv.append (preps_d (hf F1))) h2 h3 h4 z1)
end

/-! ### a def's body gives its promise -/
section
variable {P : Program} {w : World} {K : PySem.W.Frag} {mg : Str → Option Value} {base : Heap}
theorem fn_make {x qual : Str} {st : Stmt} {f : Addr} {fd : FuncData} {N ps : List Str} {k : Nat} {fb : EnvD → RS} (F : Fun K x qual st f fd) (S : FnScope N ps (defScope st)) (hN : ps.length ≤ N.length)
    (body : ∀ (cdv : Value) (A : Around) (outer : List Env) (s : Shared) (H : Hp) (E : XK), Room k (cxOf (L2.CX P w) P w K mg base N qual (defScope st) f cdv A outer s H E).A → Takes (cxOf (L2.CX P w) P w K mg base N qual (defScope st) f cdv A outer s H E) (fun cls d _ H => E cls d H) →
      DSs (cxOf (L2.CX P w) P w K mg base N qual (defScope st) f cdv A outer s H E) (fun cls d _ H => E cls d H) (defBody st) fb) :
    FnOk P w K mg base (L2.CX P w) (k + 1) f fd ps (spD K mg ps.length (runFn N.length ps.length fb)) := by
  refine F.okX S (fun vs H Q E h => ?_) (fun cdv A outer s H vs Q E hr h => ?_)
  · obtain ⟨_, _, hl, _⟩ := h
    exact hl
  · obtain ⟨t, h1, h2⟩ := (body cdv A outer s H E hr (takes_of rfl rfl rfl rfl)).ex
    exact ⟨t, h1, fn_snd h hN h2 fun _ _ _ _ z => z⟩
end
end DL

/-! The data layer, 9: names of the module, isinstance, fields, own operators, lists that are changed, parallel assignment. -/
namespace DL
open PySem PySem.Spec PyProof.Rows L2

/-! ### names of the module -/
section
variable {X : Cx} {W : WX} {x : Str} {pos : Pos}
theorem de_gint {i : Int} (h : ∃ t, X.mg x = some (.int i t)) (hg : Gl X x := by rfl) (hd : (x == ("__debug__" : Str)) = false := by decide) : DE X W (.Name x pos) (eC (.int i)) :=
  by obtain ⟨t, hm⟩ := h; exact de_of (te := tC .non) (pe_glob (v := .int i) hg hm ⟨t, rfl⟩ hd) fun _ => .int i
theorem de_gstr {i : Str} (h : ∃ t, X.mg x = some (.str i t)) (hg : Gl X x := by rfl) (hd : (x == ("__debug__" : Str)) = false := by decide) : DE X W (.Name x pos) (eC (.str i)) :=
  by obtain ⟨t, hm⟩ := h; exact de_of (te := tC .non) (pe_glob (v := .str i) hg hm ⟨t, rfl⟩ hd) fun _ => .str i
end

/-! ### isinstance -/
inductive Ty where
  | non | bl | int | str | lst | tup | dic | own (C : Str)
def Ty.nm : Ty → String
  | .non => "NoneType"
  | .bl => "bool"
  | .int => "int"
  | .str => "str"
  | .lst => "list"
  | .tup => "tuple"
  | .dic => "dict"
  | .own _ => "object"
def tyD : D → Option Ty
  | .non => some .non
  | .bl _ => some .bl
  | .int _ => some .int
  | .str _ => some .str
  | .tup _ => some .tup
  | .lst _ => some .lst
  | .seq _ => some .lst
  | .ins C _ => some (.own C)
  | .dk _ => some .dic
  | .dt _ => none
  | .val _ => none
/-- what a type is as a value of the model -/
def TyVal (mg : Str → Option Value) : Ty → Value → Prop
  | .own C, u => ∃ c, mg C = some (.ref c) ∧ u = .ref c
  | t, u => u = .type t.nm
def isB : Ty → Ty → Option Bool
  | .own _, _ => none
  | _, .own _ => none
  | .non, .non => some true
  | .bl, .bl => some true
  | .bl, .int => some true
  | .int, .int => some true
  | .str, .str => some true
  | .lst, .lst => some true
  | .tup, .tup => some true
  | .dic, .dic => some true
  | _, .non => none
  | _, _ => some false
/-- classes among each other, by the table own: (class, class or built-in type) -/
def ownIs (own : List (Str × Ty × Bool)) (a b : Ty) : Option Bool := match a, b with
  | .own C, .own C' => if C = C' then some true else (own.find? fun p => p.1 == C && match p.2.1 with
      | .own E => E == C'
      | _ => false).map (·.2.2)
  | .own _, _ => some false
  | _, .own _ => some false
  | a, b => isB a b
theorem isB_kit {K : PySem.W.Frag} {a b : Ty} {r : Bool} (h : isB a b = some r) : PySem.W.kitOne K (.type a.nm) (.type b.nm) = some r := by
  cases a <;> cases b <;> simp [isB] at h <;> subst h <;> exact kit_ty (by decide +kernel)
/-- what isinstance asks of a class -/
structure InsTy (K : PySem.W.Frag) (c : Addr) : Prop where
  cl : Cls K c
  ha : PySem.W.findIn K (.ref c) "__class__" = some (some (.builtin "object.__class__"))
  hn : PySem.W.specialIn K (.builtin "object.__class__") "__get__" = some (some (.builtin "getset_descriptor.__get__"))
  htk : PySem.W.takesIn K (.builtin "object.__class__") = some true
  hm : PySem.W.mroIn K c (.type "object") = some true
/-- the class C, asked as such: of each built-in value it is none; its instances are of no built-in type -/
structure IsCls (K : PySem.W.Frag) (c : Addr) : Prop where
  isC : PySem.W.isClsIn K c = true
  tyC : PySem.W.typeIn K (.ref c) = some (.type "type")
  non : PySem.W.subIn K (.type "NoneType") (.ref c) = some false
  bl : PySem.W.subIn K (.type "bool") (.ref c) = some false
  int : PySem.W.subIn K (.type "int") (.ref c) = some false
  str : PySem.W.subIn K (.type "str") (.ref c) = some false
  lst : PySem.W.subIn K (.type "list") (.ref c) = some false
  tup : PySem.W.subIn K (.type "tuple") (.ref c) = some false
  dic : PySem.W.subIn K (.type "dict") (.ref c) = some false
structure IsNoB (K : PySem.W.Frag) (c : Addr) : Prop where
  bl : PySem.W.subIn K (.ref c) (.type "bool") = some false
  int : PySem.W.subIn K (.ref c) (.type "int") = some false
  str : PySem.W.subIn K (.ref c) (.type "str") = some false
  lst : PySem.W.subIn K (.ref c) (.type "list") = some false
  tup : PySem.W.subIn K (.ref c) (.type "tuple") = some false
  dic : PySem.W.subIn K (.ref c) (.type "dict") = some false
/-- instances' classes known to isinstance: ins; classes asked for: asked; two of them: own -/
structure Isi (K : PySem.W.Frag) (mg : Str → Option Value) (ins asked : List Str) (own : List (Str × Ty × Bool)) : Prop where
  fn : mg "isinstance" = none
  ins : ∀ C ∈ ins, ∃ c, mg C = some (.ref c) ∧ InsTy K c ∧ IsNoB K c
  asked : ∀ C ∈ asked, ∃ c, mg C = some (.ref c) ∧ IsCls K c
  own : ∀ p ∈ own, ∀ C, p.2.1 = .own C → ∀ c d, mg p.1 = some (.ref c) → mg C = some (.ref d) → PySem.W.kitOne K (.ref c) (.ref d) = some p.2.2
def inL (C : Str) (l : List Str) : Bool := l.contains C
def insOk (ins : List Str) : Ty → Bool
  | .own C => inL C ins
  | _ => true
def askOk (asked : List Str) : Ty → Bool
  | .own C => inL C asked
  | .non => false
  | _ => true
/-- the answer for one type asked -/
def isOne (ins asked : List Str) (own : List (Str × Ty × Bool)) (a b : Ty) : Option Bool :=
  if insOk ins a = true then (if askOk asked b = true then ownIs own a b else none) else none
def isAny (ins asked : List Str) (own : List (Str × Ty × Bool)) (a : Ty) : List Ty → Option Bool
  | [] => some false
  | b :: bs => match isOne ins asked own a b with
    | some true => some true
    | some false => isAny ins asked own a bs
    | none => none
def isiD (ins asked : List Str) (own : List (Str × Ty × Bool)) (bs : List Ty) (d : D) : Option D := (tyD d).bind fun a => (isAny ins asked own a bs).map .bl
section
variable {K : PySem.W.Frag} {mg : Str → Option Value} {ins asked : List Str} {own : List (Str × Ty × Bool)}
theorem kitCls_ref {K : PySem.W.Frag} {c : Addr} {t : Value} {r : Bool} (h1 : PySem.W.isClsIn K c = true) (h2 : PySem.W.typeIn K (.ref c) = some (.type "type")) (h : PySem.W.subIn K t (.ref c) = some r) (hne : (t == Value.ref c) = false) : PySem.W.kitOne K t (.ref c) = some r := by
  have e2 : ((PySem.W.clsIn K c).isSome && PySem.W.typeIn K (.ref c) == some (.type "type")) = true := by
    have h2' : (PySem.W.clsIn K c).isSome = true := h1
    rw [h2', h2] <;> rfl
  show (if (t == Value.ref c) = true then some true else (if ((PySem.W.clsIn K c).isSome && PySem.W.typeIn K (.ref c) == some (.type "type")) = true then PySem.W.subIn K t (.ref c) else none)) = some r
  rw [if_neg (by rw [hne]; decide), if_pos e2]
  exact h
theorem kitOne_self {K : PySem.W.Frag} {t : Value} (h : (t == t) = true) : PySem.W.kitOne K t t = some true := by
  show (if (t == t) = true then some true else PySem.W.kitCls K t t) = some true
  rw [if_pos h]
theorem kitCls_ty {K : PySem.W.Frag} {c : Addr} {T : String} {r : Bool} (h : PySem.W.subIn K (.ref c) (.type T) = some r) (hm : PySem.W.kitMeta T = true) : PySem.W.kitOne K (.ref c) (.type T) = some r := by
  show (if (Value.ref c == Value.type T) = true then some true else (if PySem.W.kitMeta T = true then PySem.W.subIn K (.ref c) (.type T) else none)) = some r
  rw [if_neg (by simp), if_pos hm]
  exact h
theorem isOne_b (I : Isi K mg ins asked own) {a b : Ty} {r : Bool} (c1 : insOk ins a = true) (h : ownIs own a b = some r) {t u : Value} (ht : TyVal mg a t) (hu : TyVal mg b u) (hb : ∀ C, b ≠ .own C) (hb2 : b ≠ .non) : PySem.W.kitOne K t u = some r := by
  have hu' : u = .type b.nm := by
    cases b <;> first | exact hu | exact absurd rfl (hb _)
  subst hu'
  cases a with
  | own C =>
    obtain ⟨c, hc, rfl⟩ := ht
    obtain ⟨c', hc', _, N⟩ := I.ins C (by
      have c1 : inL C ins = true := c1
      simpa [inL] using c1)
    rw [hc] at hc'
    cases hc'
    have hr : r = false := by
      cases b <;> first | exact absurd rfl (hb _) | (cases h; rfl)
    subst hr
    cases b with
    | own _ => exact absurd rfl (hb _)
    | non => exact absurd rfl hb2
    | bl => exact kitCls_ty N.bl (by decide +kernel)
    | int => exact kitCls_ty N.int (by decide +kernel)
    | str => exact kitCls_ty N.str (by decide +kernel)
    | lst => exact kitCls_ty N.lst (by decide +kernel)
    | tup => exact kitCls_ty N.tup (by decide +kernel)
    | dic => exact kitCls_ty N.dic (by decide +kernel)
  | _ =>
    cases (show t = _ from ht)
    refine isB_kit ?_
    cases b <;> first | exact absurd rfl (hb _) | exact h
theorem isOne_kit (I : Isi K mg ins asked own) {a b : Ty} {r : Bool} (h : isOne ins asked own a b = some r) {t u : Value} (ht : TyVal mg a t) (hu : TyVal mg b u) : PySem.W.kitOne K t u = some r := by
  unfold isOne at h
  by_cases c1 : insOk ins a = true
  · rw [if_pos c1] at h
    by_cases c2 : askOk asked b = true
    · rw [if_pos c2] at h
      by_cases hb2 : b = .non
      · subst hb2; cases c2
      by_cases hb : ∃ C, b = .own C
      · obtain ⟨C', rfl⟩ := hb
        obtain ⟨d, hd, rfl⟩ := hu
        obtain ⟨d', hd', J⟩ := I.asked C' (by
          have c2 : inL C' asked = true := c2
          simpa [inL] using c2)
        rw [hd] at hd'
        cases hd'
        cases a with
        | own C =>
          obtain ⟨c, hc, rfl⟩ := ht
          have h : (if C = C' then some true else (own.find? fun p => p.1 == C && match p.2.1 with | .own E => E == C' | _ => false).map (·.2.2)) = some r := h
          by_cases e : C = C'
          · subst e
            rw [if_pos rfl] at h
            cases h
            rw [hc] at hd
            cases hd
            exact kitOne_self (by simp)
          · rw [if_neg e] at h
            obtain ⟨p, hp, hr⟩ := Option.map_eq_some_iff.mp h
            subst hr
            have hm := List.mem_of_find?_eq_some hp
            have hq := List.find?_some hp
            obtain ⟨pC, pT, pr⟩ := p
            cases pT with
            | own E =>
              simp only [Bool.and_eq_true, beq_iff_eq] at hq
              obtain ⟨e1, e2⟩ := hq
              subst e1 e2
              exact I.own _ hm E rfl c d hc hd
            | _ => simp at hq
        | non => cases h; cases (show t = _ from ht); exact kitCls_ref J.isC J.tyC J.non (by simp)
        | bl => cases h; cases (show t = _ from ht); exact kitCls_ref J.isC J.tyC J.bl (by simp)
        | int => cases h; cases (show t = _ from ht); exact kitCls_ref J.isC J.tyC J.int (by simp)
        | str => cases h; cases (show t = _ from ht); exact kitCls_ref J.isC J.tyC J.str (by simp)
        | lst => cases h; cases (show t = _ from ht); exact kitCls_ref J.isC J.tyC J.lst (by simp)
        | tup => cases h; cases (show t = _ from ht); exact kitCls_ref J.isC J.tyC J.tup (by simp)
        | dic => cases h; cases (show t = _ from ht); exact kitCls_ref J.isC J.tyC J.dic (by simp)
      · exact isOne_b I c1 h ht hu (fun C e => hb ⟨C, e⟩) hb2
    · rw [if_neg c2] at h; cases h
  · rw [if_neg c1] at h; cases h
theorem isAny_kit (I : Isi K mg ins asked own) {a : Ty} {t : Value} (ht : TyVal mg a t) : ∀ {bs : List Ty} {us : List Value} {r : Bool}, Paired (TyVal mg) bs us → isAny ins asked own a bs = some r → PySem.W.kitAny K t us = some r
  | [], _, r, .nil, h => by cases h; rfl
  | b :: bs, _, r, .cons hb hr, h => by
    unfold isAny at h
    cases q : isOne ins asked own a b with
    | none => rw [q] at h; cases h
    | some k =>
      rw [q] at h
      refine kitAny_cons (isOne_kit I q ht hb) (fun e => ?_) (fun e => ?_)
      · subst e; exact isAny_kit I ht hr h
      · subst e; cases h; rfl
/-- a datum's type, as the model has it -/
theorem tyX_of {F H : Hp} (I : Isi K mg ins asked own) (e : ExD F H) {v : V} {d : D} {a : Ty} (h : RepV K mg F H v d) (ha : tyD d = some a) (hi : insOk ins a = true) : ∃ t, TyX K H v t ∧ TyVal mg a t := by
  cases d with
  | non => cases h.non; cases ha; exact ⟨_, .base .non, rfl⟩
  | bl b => cases h.bl; cases ha; exact ⟨_, .base (.bl b), rfl⟩
  | int b => cases h.int; cases ha; exact ⟨_, .base (.int b), rfl⟩
  | str b => cases h.str; cases ha; exact ⟨_, .base (.str b), rfl⟩
  | lst l => obtain ⟨p, vs, rfl, h1, _⟩ := h.lst e; cases ha; exact ⟨_, .base (.lst h1), rfl⟩
  | seq l =>
    obtain ⟨p, vs, rfl, h1, _⟩ := h.seq e
    cases ha
    rcases h1 with (h1 | ⟨o, h1⟩) | h1
    · exact ⟨_, .base (.lst h1), rfl⟩
    · exact ⟨_, .base (.frz h1), rfl⟩
    · obtain ⟨o, its, n, k1, k2, _⟩ := h1
      exact ⟨_, .kList k1 k2, rfl⟩
  | tup l =>
    obtain ⟨p, vs, rfl, h1, _⟩ := h.tup e
    cases ha
    rcases h1 with (h1 | ⟨o, h1⟩) | h1
    · exact ⟨_, .base (.tup h1), rfl⟩
    · exact ⟨_, .fTuple h1, rfl⟩
    · obtain ⟨o, its, n, k1, k2, _⟩ := h1
      exact ⟨_, .kTuple k1 k2, rfl⟩
  | ins C fs =>
    obtain ⟨p, c, dx, gs, rfl, h1, h2, _⟩ := h.ins e
    cases ha
    obtain ⟨c', hc', T, _⟩ := I.ins C (by
      have hi : inL C ins = true := hi
      simpa [inL] using hi)
    rw [h2] at hc'
    cases hc'
    exact ⟨_, .base (.ins h1 T.cl T.ha T.hn T.htk T.hm), c, h2, rfl⟩
  | dk l =>
    obtain ⟨p, vs, rfl, h1, _⟩ := h.dk e
    cases ha
    rcases h1 with h1 | ⟨ob, h1⟩
    · exact ⟨_, .base (.dK h1), rfl⟩
    · exact ⟨_, .fDict h1, rfl⟩
  | dt l => cases ha
  | val v => cases ha
end
end DL

/-! The data layer, 10: isinstance, fields, own operators, lists that are changed, parallel assignment. -/
namespace DL
open PySem PySem.Spec PyProof.Rows L2

/-! ### isinstance -/
section
variable {X : Cx} {W : WX} {x : Str} {pos p : Pos} {ins asked : List Str} {own : List (Str × Ty × Bool)}
/-- the expression names the type b -/
def TyE (X : Cx) (e : Expr) (b : Ty) : Prop := ∃ v u, PE X e (tC v) ∧ ClsV v u ∧ TyVal X.mg b u
theorem ty_own {C : Str} (h : ∃ c, X.mg C = some (.ref c)) (hg : Gl X C := by rfl) (hd : (C == ("__debug__" : Str)) = false := by decide) : TyE X (.Name C pos) (.own C) :=
  let ⟨c, hm⟩ := h; ⟨.ref c, .ref c, pe_glob (v := .ref c) hg hm rfl hd, .own c, c, hm, rfl⟩
theorem ty_b {b : Ty} (hm : X.mg x = none) (hv : bootBuiltins x = some (.type b.nm)) (hb : TyVal X.mg b (.type b.nm)) (hg : Gl X x := by rfl) (hn : x ≠ "__name__" := by decide) (hd : (x == ("__debug__" : Str)) = false := by decide) : TyE X (.Name x pos) b :=
  ⟨.ty b.nm, .type b.nm, pe_bltn (v := .ty b.nm) hg hm hv rfl hn hd, .ty _, hb⟩
def TysE (X : Cx) : List Expr → List Ty → Prop
  | [], [] => True
  | e :: es, b :: bs => TyE X e b ∧ starEach (e :: es) X.env = (false, eval e X.env) :: starEach es X.env ∧ TysE X es bs
  | _, _ => False
theorem tys_pa : ∀ {es : List Expr} {bs : List Ty}, TysE X es bs → ∃ vs us t, PA X es t ∧ (∀ σ H (Q : List V → Hp → Prop), Q vs H → t σ H Q) ∧ Paired ClsV vs us ∧ Paired (TyVal X.mg) bs us
  | [], [], _ => ⟨[], [], tNil, pa_nil, fun _ _ _ h => h, .nil, .nil⟩
  | e :: es, b :: bs, ⟨⟨v, u, h1, h2, h3⟩, hs, hr⟩ => by
    obtain ⟨vs, us, t, g1, g2, g3, g4⟩ := tys_pa hr
    exact ⟨v :: vs, u :: us, _, pa_cons h1 g1 hs, fun σ H Q h => g2 σ H _ h, .cons h2 g3, .cons h3 g4⟩
  | [], _ :: _, h => h.elim
  | _ :: _, [], h => h.elim
theorem RepV.grow {F H H' : Hp} {v : V} {d : D} (e : Ex H H') (h : RepV X.K X.mg F H v d) : RepV X.K X.mg F H' v d := by
  rcases h with h | ⟨a, o, co, h1, h2, h3⟩
  · exact .inl h
  · exact .inr ⟨a, o, co, h1, e _ _ h2, h3⟩
theorem isAny_ins {a : Ty} {b : Ty} {bs : List Ty} {r : Bool} (h : isAny ins asked own a (b :: bs) = some r) : insOk ins a = true := by
  unfold isAny at h
  cases q : isOne ins asked own a b with
  | none => rw [q] at h; cases h
  | some k =>
    unfold isOne at q
    by_cases c : insOk ins a = true
    · exact c
    · rw [if_neg c] at q; cases q
theorem de_isi {e t : Expr} {b : Ty} {fe : EnvD → Rs PD} (I : Isi X.K X.mg ins asked own) (he : OE X W e fe) (ht : TyE X t b) (hg : Gl X "isinstance" := by rfl)
    (hs : starEach (t :: []) X.env = (false, eval t X.env) :: starEach [] X.env := by rfl) (hst : starEach (e :: [t]) X.env = (false, eval e X.env) :: starEach [t] X.env := by rfl) (hpl : (backTo pos (starEach [t] X.env)).any (·.1) = false := by rfl) :
    DE X W (.Call (.Name "isinstance" p) [e, t] [] pos) (eOp1 (isiD ins asked own [b]) fe) := by
  obtain ⟨te, h1, s1⟩ := he.ex
  obtain ⟨c, u, h2, k, hu⟩ := ht
  refine ⟨_, pe_callB call_isi hg I.fn (by rfl) (pa_cons h1 (pa_cons h2 pa_nil hs) hst) (by decide) (by decide) hst hpl, fun B F ρ σ H Q S z => ?_⟩
  exact s1 B F ρ σ H _ S (EndG.cont z fun q ρ1 F1 H1 S1 e1 z1 v hv => by
    obtain ⟨d, hd, z2⟩ := z1.opt
    obtain ⟨dx, g1, g2⟩ := Option.bind_eq_some_iff.mp hd
    obtain ⟨a, g3, g4⟩ := Option.bind_eq_some_iff.mp g2
    obtain ⟨r, g5, rfl⟩ := Option.map_eq_some_iff.mp g4
    obtain ⟨t', ty, tv⟩ := tyX_of I S1.ex (hv.get S1 g1) g3 (isAny_ins g5)
    have ka := isAny_kit I tv (.cons hu .nil) g5
    have ko : PySem.W.kitOne X.K t' u = some r := by
      unfold PySem.W.kitAny at ka
      cases q : PySem.W.kitOne X.K t' u with
      | none => rw [q] at ka; cases ka
      | some r' => rw [q] at ka; cases r' <;> exact ka
    exact ⟨v, c, t', u, r, rfl, k, ty, ko, z2 F1 H1 S1 (Ex.refl F1) _ (.bl r)⟩)
theorem de_isiT {e : Expr} {es : List Expr} {b : Ty} {bs : List Ty} {fe : EnvD → Rs PD} {x1} {tp : Pos} (I : Isi X.K X.mg ins asked own) (he : OE X W e fe) (ht : TysE X es (b :: bs)) (hl : bs.length < 100) (hg : Gl X "isinstance" := by rfl)
    (hs : starEach ((.Tuple es x1 tp) :: []) X.env = (false, eval (.Tuple es x1 tp) X.env) :: starEach [] X.env := by rfl) (hst : starEach (e :: [.Tuple es x1 tp]) X.env = (false, eval e X.env) :: starEach [.Tuple es x1 tp] X.env := by rfl) (hpl : (backTo pos (starEach [.Tuple es x1 tp] X.env)).any (·.1) = false := by rfl) :
    DE X W (.Call (.Name "isinstance" p) [e, .Tuple es x1 tp] [] pos) (eOp1 (isiD ins asked own (b :: bs)) fe) := by
  obtain ⟨te, h1, s1⟩ := he.ex
  obtain ⟨vs, us, t, g1, g2, g3, g4⟩ := tys_pa ht
  refine ⟨_, pe_callB call_isiT hg I.fn (by rfl) (pa_cons h1 (pa_cons (pe_tup g1) pa_nil hs) hst) (by decide) (by decide) hst hpl, fun B F ρ σ H Q S z => ?_⟩
  exact s1 B F ρ σ H _ S (EndG.cont z fun q ρ1 F1 H1 S1 e1 z1 v hv => by
    obtain ⟨d, hd, z2⟩ := z1.opt
    obtain ⟨dx, k1, k2⟩ := Option.bind_eq_some_iff.mp hd
    obtain ⟨a, k3, k4⟩ := Option.bind_eq_some_iff.mp k2
    obtain ⟨r, k5, rfl⟩ := Option.map_eq_some_iff.mp k4
    refine g2 σ H1 _ ⟨?_, fun tp hp => ?_⟩
    · have l1 := g3.length
      have l2 := g4.length
      rw [List.length_cons] at l2
      exact small4 (by omega)
    · have S2 := S1.grow (Ex.new (o := .tup vs) hp)
      obtain ⟨t', ty, tv⟩ := tyX_of I S2.ex ((hv.get S1 k1).grow (Ex.new hp)) k3 (isAny_ins k5)
      exact ⟨v, tp, vs, t', us, r, rfl, upd_same, g3, ty, isAny_kit I tv g4 k5, z2 F1 _ S2 (Ex.refl F1) _ (.bl r)⟩)
end

/-! ### fields -/
section
variable {X : Cx} {W : WX} {e o v : Expr} {pos pos' : Pos} {f : Str}
/-- the instances of the classes nms may have the field f -/
def FldOk (K : PySem.W.Frag) (mg : Str → Option Value) (nms : List Str) (f : Str) : Prop := ∀ nm ∈ nms, ∃ c, mg nm = some (.ref c) ∧ Cls K c ∧ NoAttr K c f
def fldD (nms : List Str) (f : Str) : D → Option D
  | .ins nm fs => if inL nm nms = true then fs.lookup f else none
  | _ => none
theorem de_fld {nms : List Str} {fe : EnvD → Rs PD} (h : FldOk X.K X.mg nms f) (he : OE X W e fe) (hb : attributeBase e f X.env (eval e X.env) = eval e X.env := by rfl) : DE X W (.Attribute e f pos) (eOp1 (fldD nms f) fe) := by
  obtain ⟨te, h1, s1⟩ := he.ex
  refine ⟨_, pe_fld h1 hb, ?_⟩
  refine op1_snd (r := fun x H1 Q => ∃ a C dx fs v, x = .ref a ∧ H1 a = some (.ins C dx fs) ∧ Cls X.K C ∧ NoAttr X.K C f ∧ fs.lookup f = some v ∧ Q v H1) s1 fun B F ρ σ H x dx d Q S rv g k => ?_
  cases dx with
  | ins nm gs =>
    have g : (if inL nm nms = true then gs.lookup f else none) = some d := g
    by_cases c : inL nm nms = true
    · rw [if_pos c] at g
      obtain ⟨cc, hc, cl, na⟩ := h nm (by simpa [inL] using c)
      obtain ⟨a, C, dx, fs, rfl, h1, h2, h3⟩ := rv.ins S.ex
      rw [hc] at h2
      cases h2
      obtain ⟨w, h4, h5⟩ := h3.lookup g
      exact ⟨a, _, dx, fs, w, rfl, h1, cl, na, h4, k w F H S (Ex.refl F) h5⟩
    · rw [if_neg c] at g; cases g
  | _ => cases g
/-- x.f = e, x a cell that holds an instance -/
def insAt (ρ : EnvD) (i : Nat) : Option (SV × Str × List (Str × D)) := match ρ[i]? with
  | some (.c (.ins nm fs)) => some (.c (.ins nm fs), nm, fs)
  | some (.p (.ins nm fs)) => some (.p (.ins nm fs), nm, fs)
  | _ => none
theorem insAt_ok {ρ : EnvD} {i : Nat} {s : SV} {nm : Str} {fs : List (Str × D)} (h : insAt ρ i = some (s, nm, fs)) : ρ[i]? = some s ∧ isCell s = some (.ins nm fs) := by
  unfold insAt at h
  split at h <;> cases h <;> exact ⟨by assumption, rfl⟩
def sFldD (nms : List Str) (f : Str) (i : Nat) (fe : EnvD → Rs D) : EnvD → RS := fun ρ => (fe ρ).bindS fun d ρ1 => match insAt ρ1 i with
  | some (s, nm, fs) => if inL nm nms = true ∧ fs.length < 1000 then .nx (ρ1.set i (reCell s (.ins nm (putD f d fs)))) else .bad
  | none => .bad
theorem ds_fld {nms : List Str} {i : Nat} {fe : EnvD → Rs D} {to : TE} (h : FldOk X.K X.mg nms f) (ho : PE X o to) (hto : to = tVar i) (hv : DE X W v fe) (hs : swapsWith v (some (.Attribute o f pos')) pos.line X.env = pure false := by rfl) : DS X W (.Assign [.Attribute o f pos'] v pos) (sFldD nms f i fe) := by
  subst hto
  obtain ⟨te, h1, s1⟩ := hv.ex
  refine ⟨_, ps_fld ho h1 hs, fun B F ρ σ H Dn S z => ?_⟩
  exact s1 B F ρ σ H _ S (EndS.cont z fun d ρ1 F1 H1 S1 e1 z1 y r => by
    cases q : insAt ρ1 i with
    | none => rw [q] at z1; exact z1.elim
    | some t =>
      obtain ⟨s, nm, fs⟩ := t
      rw [q] at z1
      simp only at z1
      by_cases c : inL nm nms = true ∧ fs.length < 1000
      · rw [if_pos c] at z1
        obtain ⟨e1, e2⟩ := insAt_ok q
        obtain ⟨a, o, g1, g2, g3, g4, _⟩ := S1.cell e1 e2
        obtain ⟨cc, hc, cl, na⟩ := h nm (by simpa [inL] using c.1)
        cases g4 with
        | @ins C dx _ gs _ hm rp =>
          rw [hc] at hm
          cases hm
          refine ⟨_, g1, a, _, dx, gs, rfl, g2, cl, na, by rw [rp.length]; exact c.2, ?_⟩
          exact z1 σ F1 _ (S1.write e1 e2 g1 (.ins hc (rp.put r))) (Ex.refl F1)
      · rw [if_neg c] at z1; exact z1.elim)
end

/-! ### own operators -/
def OpRS (X : Cx) (f : Value → Value → Sem Value) (r : L2.St → R2) : Prop :=
  ∀ (pins : List (Addr × Obj)) (s : Shared) (σ : L2.St) (H : Hp) (x y : V) (v u : Value) (Q : VK), Inv X pins σ H s → RelV x v → RelV y u → r σ x y H Q →
    wpAny (model X.prog X.w) X.A (f v u) (EP X pins σ Q) X.xe s
def tOpS (r : L2.St → R2) (ta tb : TE) : TE := fun σ H Q => ta σ H fun x H1 => tb σ H1 fun y H2 => r σ x y H2 Q
section
variable {X : Cx} {W : WX} {a b : Expr} {ta tb : TE} {pos : Pos}
theorem pe_opS {op : Operator} {r : L2.St → R2} (ho : OpRS X (binaryOp op) r) (ha : PE X a ta) (hb : PE X b tb) : PE X (.BinOp a op b pos) (tOpS r ta tb) := by
  refine ⟨fun pins s σ H Q I h => ?_⟩
  exact wpAny_BinOp (binT ha hb I h fun v u s2 x y H2 I2 rx ry q => ho pins s2 σ H2 x y v u Q I2 rx ry q)
theorem pe_cmpS {op : CmpOp} {r : L2.St → R2} (ho : OpRS X (compareOp op) r) (ha : PE X a ta) (hb : PE X b tb) (hm : behindInMarks op b = false) : PE X (.Compare a [op] [b] pos) (tOpS r ta tb) := by
  refine ⟨fun pins s σ H Q I h => ?_⟩
  exact wpAny_Compare1 (binT ha hb I h fun v u s2 x y H2 I2 rx ry q => ho pins s2 σ H2 x y v u Q I2 rx ry q) hm
theorem pt_cmpS {op : CmpOp} {r : L2.St → R2} (ho : OpRS X (compareOp op) r) (ha : PE X a ta) (hb : PE X b tb) (hm : behindInMarks op b = false) : PT X (.Compare a [op] [b] pos) (tTest (tOpS r ta tb)) := by
  refine ⟨fun pins s σ H Q I h => ?_⟩
  refine wpAny_isTrue_Compare1 (thn (ha.run pins s σ H _ I h) fun v s1 ⟨x, H1, I1, r1, q1⟩ => thn (hb.run pins s1 σ H1 _ I1 q1) fun u s2 ⟨y, H2, I2, r2, q2⟩ =>
    thn (ho pins s2 σ H2 x y v u _ I2 r1 r2 q2) fun c s3 ⟨z, H3, I3, r3, k, e, q3⟩ => ?_) hm
  subst e
  cases r3
  exact wpAny_truthy_bool ⟨H3, I3, q3⟩
/-- two instances of the class at c, by its def at f -/
def rOwn (c : Addr) (sp : Sp) (E : L2.St → XK) : L2.St → R2 := fun σ x y H Q => ∃ a b dx dy fs gs, x = .ref a ∧ y = .ref b ∧ H a = some (.ins c dx fs) ∧ H b = some (.ins c dy gs) ∧ sp [x, y] H Q (E σ)
theorem relV_ni {v : V} {u : Value} (h : RelV v u) : u ≠ .notImplemented := by
  cases v <;> intro e <;> subst e <;> first | (obtain ⟨t, h⟩ := h; cases h; done) | (cases h; done)
theorem own_run {CX : CXT} {k : Nat} {f c : Addr} {fd : FuncData} {ps : List Str} {sp : Sp} {E : L2.St → XK} (F : FnOk X.prog X.w X.K X.mg X.base CX k f fd ps sp) (hr : Room k X.A) (hb : Binds X.K fd ps []) (hx : ∀ σ, PassesAt CX X σ (E σ))
    {pins : List (Addr × Obj)} {s : Shared} {σ : L2.St} {H : Hp} {Q : VK} {p q : Addr} (I : Inv X pins σ H s) (h : sp [.ref p, .ref q] H Q (E σ)) : wpAny (model X.prog X.w) X.A (call (.ref f) [.ref p, .ref q]) (PySem.W.CmpBack (EP X pins σ Q)) X.xe s := by
  have r2 : Vals [V.ref p, V.ref q] [Value.ref p, Value.ref q] := .cons rfl (.cons rfl .nil)
  refine wpAny_mono (run_fnSD (ds := []) (dvs := []) F hr hb .nil (hx σ) I r2 h) (fun v s' z => ?_) fun _ _ x => x
  obtain ⟨w, H', I', rv, z⟩ := z
  have := relV_ni rv
  cases v <;> first | exact absurd rfl this | exact ⟨w, H', I', rv, z⟩
theorem own_cmp {op : CmpOp} {CX : CXT} {k : Nat} {f c : Addr} {fd : FuncData} {ps : List Str} {sp : Sp} {E : L2.St → XK} (F : FnOk X.prog X.w X.K X.mg X.base CX k f fd ps sp) (hr : Room k X.A) (hb : Binds X.K fd ps []) (hx : ∀ σ, PassesAt CX X σ (E σ))
    (hs : PySem.W.findIn X.K (.ref c) (cmpInfo op).2.1 = some (some (.ref f))) (hf : PySem.W.isFn X.K (.ref f) = true) (hop : compareOp op = richCompare op) : OpRS X (compareOp op) (rOwn c sp E) := by
  intro pins s σ H x y v u Q I rx ry h
  obtain ⟨a, b, dx, dy, fs, gs, rfl, rfl, ha, hb', hsp⟩ := h
  cases rx
  cases ry
  obtain ⟨mA, J, _⟩ := ins_get I.hok ha
  obtain ⟨mB, J', _⟩ := ins_get I.hok hb'
  obtain ⟨od, J, _⟩ := J.look
  obtain ⟨od', J', _⟩ := J'.look
  obtain ⟨m, hF⟩ := I.fr
  rw [hop]
  exact PySem.W.cmp_K (tb := .ref c) hr.units0 hF I.ok.mod.kin J J'.type (by simp [PySem.W.notFirst]) hs hf (own_run (c := c) F hr hb hx I hsp)
theorem own_bin {op : Operator} {CX : CXT} {k : Nat} {f c : Addr} {fd : FuncData} {ps : List Str} {sp : Sp} {E : L2.St → XK} (F : FnOk X.prog X.w X.K X.mg X.base CX k f fd ps sp) (hr : Room k X.A) (hb : Binds X.K fd ps []) (hx : ∀ σ, PassesAt CX X σ (E σ))
    (hs : PySem.W.findIn X.K (.ref c) (PySem.dunder op.info.2) = some (some (.ref f))) (hc : PySem.W.selfFirst X.K c = true) (hf : PySem.W.isFn X.K (.ref f) = true) : OpRS X (binaryOp op) (rOwn c sp E) := by
  intro pins s σ H x y v u Q I rx ry h
  obtain ⟨a, b, dx, dy, fs, gs, rfl, rfl, ha, hb', hsp⟩ := h
  cases rx
  cases ry
  obtain ⟨mA, J, _⟩ := ins_get I.hok ha
  obtain ⟨mB, J', _⟩ := ins_get I.hok hb'
  obtain ⟨od, J, _⟩ := J.look
  obtain ⟨od', J', _⟩ := J'.look
  obtain ⟨m, hF⟩ := I.fr
  exact PySem.W.binop_K hF I.ok.mod.kin J J'.type hc hs hf (own_run (c := c) F hr hb hx I hsp)
end
section
variable (P : Program) (w : World) (K : PySem.W.Frag) (mg : Str → Option Value) (base : Heap)
/-- the class C has its own op, a def with mirror m -/
def CmpOwn (C : Str) (op : CmpOp) (k : Nat) (m : Mir) : Prop := ∃ c f, mg C = some (.ref c) ∧ PySem.W.findIn K (.ref c) (cmpInfo op).2.1 = some (some (.ref f)) ∧ PySem.W.isFn K (.ref f) = true ∧ compareOp op = richCompare op ∧ Cal P w K mg base f k 2 m []
def BinOwn (C : Str) (op : Operator) (k : Nat) (m : Mir) : Prop := ∃ c f, mg C = some (.ref c) ∧ PySem.W.findIn K (.ref c) (PySem.dunder op.info.2) = some (some (.ref f)) ∧ PySem.W.selfFirst K c = true ∧ PySem.W.isFn K (.ref f) = true ∧ Cal P w K mg base f k 2 m []
end
def isInsD (C : Str) : Option D → Bool
  | some (.ins nm _) => nm == C
  | _ => false
def ownRF {α : Type} (C : Str) (fa fb : EnvD → Rs PD) (g : List PD → EnvD → Rs α) : EnvD → Rs α := fun ρ => (fa ρ).bind fun p ρ1 => (fb ρ1).bind fun q ρ2 => if (isInsD C (p.get ρ2) && isInsD C (q.get ρ2)) = true then g [p, q] ρ2 else .bad
def ownD (C : Str) (m : Mir) (fa fb : EnvD → Rs PD) : EnvD → Rs D := ownRF C fa fb fun ps ρ => (callRF 2 m ρ ps).toD ρ ps
def ownN (C : Str) (m : Mir) (fa fb : EnvD → Rs PD) : EnvD → Rs CO := ownRF C fa fb fun ps ρ => (callRF 2 m ρ ps).toN ρ ps
section
variable {X : Cx} {W : WX} {a b : Expr} {ta tb : TE} {pos : Pos} {C : Str} {k : Nat} {m : Mir} {fa fb : EnvD → Rs PD}
theorem own_snd {α : Type} {P : α → EnvD → Hp → Hp → Prop} {g : List PD → EnvD → Rs α} {c : Addr} (hc : X.mg C = some (.ref c)) (sa : OSnd X W ta fa) (sb : OSnd X W tb fb) {B : Bs} {F : Hp} {ρ : EnvD} {σ : L2.St} {H : Hp} {R : List V → Hp → Prop} (S : StR X.K X.mg B F ρ σ H)
    (z : EndG X.K X.mg B F σ W P (ownRF C fa fb g ρ)) (k : ∀ vs ps ρ2 F2 H2, StR X.K X.mg B F2 ρ2 σ H2 → PReps X.K X.mg F2 σ vs ps → EndG X.K X.mg B F2 σ W P (g ps ρ2) → R vs H2) :
    ta σ H fun x H1 => tb σ H1 fun y H2 => ∃ p q dx dy fs gs, x = .ref p ∧ y = .ref q ∧ H2 p = some (.ins c dx fs) ∧ H2 q = some (.ins c dy gs) ∧ R [x, y] H2 :=
  sa B F ρ σ H _ S (EndG.cont z fun p ρ1 F1 H1 S1 e1 z1 v hv =>
    sb B F1 ρ1 σ H1 _ S1 (EndG.cont z1 fun q ρ2 F2 H2 S2 e2 z2 u hu => by
      have isI : ∀ {p : PD} {v : V}, PRep X.K X.mg F2 σ v p → isInsD C (p.get ρ2) = true → ∃ a dx fs, v = .ref a ∧ H2 a = some (.ins c dx fs) := fun {p v} hv h => by
        cases g1 : p.get ρ2 with
        | none => rw [g1] at h; cases h
        | some d =>
          have rv := hv.get S2 g1
          rw [g1] at h
          cases d with
          | ins nm gs =>
            have h : (nm == C) = true := h
            obtain rfl := eq_of_beq h
            obtain ⟨a, c', dx, fs, rfl, h1, h2, _⟩ := rv.ins S2.ex
            rw [hc] at h2
            cases h2
            exact ⟨a, dx, fs, rfl, h1⟩
          | _ => cases h
      by_cases cc : (isInsD C (p.get ρ2) && isInsD C (q.get ρ2)) = true
      · rw [if_pos cc] at z2
        simp only [Bool.and_eq_true] at cc
        obtain ⟨a1, dx, fs, rfl, h1⟩ := isI (hv.ext e2) cc.1
        obtain ⟨a2, dy, gs, rfl, h2⟩ := isI hu cc.2
        exact ⟨a1, a2, dx, dy, fs, gs, rfl, rfl, h1, h2, k _ [p, q] ρ2 F2 H2 S2 ⟨hv.ext e2, hu, trivial⟩ z2⟩
      · rw [if_neg cc] at z2; exact z2.elim))
theorem reps_nil {vs : List V} (h : ∀ F, Reps X.K X.mg F vs []) : vs = [] := by cases h (fun _ => none); rfl
theorem de_cmpOwn {op : CmpOp} (h : CmpOwn X.prog X.w X.K X.mg X.base C op k m) (hr : Room k X.A) (tk : Takes X W) (ha : OE X W a fa) (hb : OE X W b fb) (hm : behindInMarks op b = false) : DE X W (.Compare a [op] [b] pos) (ownD C m fa fb) := by
  obtain ⟨c, f, hc, hs, hf, hop, fd, ps, ds, dvs, F, hbd, hd, hdd⟩ := h
  cases reps_nil hdd
  cases hd
  obtain ⟨ta, h1, s1⟩ := ha.ex
  obtain ⟨tb, h2, s2⟩ := hb.ex
  refine ⟨_, pe_cmpS (own_cmp F hr hbd (fun σ => passAt tk σ) hs hf hop) h1 h2 hm, fun B F0 ρ σ H Q S z => ?_⟩
  exact own_snd (R := fun vs H2 => spD X.K X.mg 2 m vs H2 Q (WE W σ)) hc s1 s2 S z fun vs ps ρ2 F2 H2 S2 hv z2 => call_toD S2 hv z2
theorem dt_cmpOwn {op : CmpOp} (h : CmpOwn X.prog X.w X.K X.mg X.base C op k m) (hr : Room k X.A) (tk : Takes X W) (ha : OE X W a fa) (hb : OE X W b fb) (hm : behindInMarks op b = false) : DT X W (.Compare a [op] [b] pos) (tB (ownD C m fa fb)) := by
  obtain ⟨c, f, hc, hs, hf, hop, fd, ps, ds, dvs, F, hbd, hd, hdd⟩ := h
  cases reps_nil hdd
  cases hd
  obtain ⟨ta, h1, s1⟩ := ha.ex
  obtain ⟨tb, h2, s2⟩ := hb.ex
  refine ⟨_, pt_cmpS (own_cmp F hr hbd (fun σ => passAt tk σ) hs hf hop) h1 h2 hm, tB_snd fun B F0 ρ σ H Q S z => ?_⟩
  exact own_snd (R := fun vs H2 => spD X.K X.mg 2 m vs H2 Q (WE W σ)) hc s1 s2 S z fun vs ps ρ2 F2 H2 S2 hv z2 => call_toD S2 hv z2
theorem de_binOwn {op : Operator} (h : BinOwn X.prog X.w X.K X.mg X.base C op k m) (hr : Room k X.A) (tk : Takes X W) (ha : OE X W a fa) (hb : OE X W b fb) : DE X W (.BinOp a op b pos) (ownD C m fa fb) := by
  obtain ⟨c, f, hc, hs, hsf, hf, fd, ps, ds, dvs, F, hbd, hd, hdd⟩ := h
  cases reps_nil hdd
  cases hd
  obtain ⟨ta, h1, s1⟩ := ha.ex
  obtain ⟨tb, h2, s2⟩ := hb.ex
  refine ⟨_, pe_opS (own_bin F hr hbd (fun σ => passAt tk σ) hs hsf hf) h1 h2, fun B F0 ρ σ H Q S z => ?_⟩
  exact own_snd (R := fun vs H2 => spD X.K X.mg 2 m vs H2 Q (WE W σ)) hc s1 s2 S z fun vs ps ρ2 F2 H2 S2 hv z2 => call_toD S2 hv z2
end

/-! ### lists that are changed -/
def lstAt (ρ : EnvD) (i : Nat) : Option (SV × List D) := match ρ[i]? with
  | some (.c (.lst l)) => some (.c (.lst l), l)
  | some (.p (.lst l)) => some (.p (.lst l), l)
  | _ => none
theorem lstAt_ok {ρ : EnvD} {i : Nat} {s : SV} {l : List D} (h : lstAt ρ i = some (s, l)) : ρ[i]? = some s ∧ isCell s = some (.lst l) := by
  unfold lstAt at h
  split at h <;> cases h <;> exact ⟨by assumption, rfl⟩
def MtC (X : Cx) (r : V → List V → Hp → VK → Prop) (g : List D → List D → Option (D × List D)) : Prop := ∀ F H a xs ds vs es d ds' Q, ExD F H → H a = some (.lst xs) → Reps X.K X.mg F xs ds → Reps X.K X.mg F vs es → g ds es = some (d, ds') →
  (∀ v xs', Reps X.K X.mg F xs' ds' → Rep X.K X.mg F v d → Q v (upd H a (.lst xs'))) → r (.ref a) vs H Q
def cellM (i : Nat) (g : List D → List D → Option (D × List D)) (fa : EnvD → Rs (List D)) : EnvD → Rs D := fun ρ => match lstAt ρ i with
  | none => .bad
  | some _ => (fa ρ).bind fun es ρ1 => match lstAt ρ1 i with
    | none => .bad
    | some (s, ds) => match g ds es with
      | none => .bad
      | some (d, ds') => .ok d (ρ1.set i (reCell s (.lst ds')))
section
variable {X : Cx} {W : WX} {i : Nat} {id : String} {name : Str} {r : V → List V → Hp → VK → Prop} {g : List D → List D → Option (D × List D)} {o e : Expr} {es : List Expr} {apos cpos : Pos} {to : TE} {fa : EnvD → Rs (List D)}
theorem cellM_snd {t : TA} (hg : MtC X r g) (sa : ASnd X W t fa) : DSnd X W (tBM X.K "list" r (tVar i) t) (cellM i g fa) := fun B F ρ σ H Q S z => by
  unfold cellM at z
  cases q : lstAt ρ i with
  | none => rw [q] at z; exact z.elim
  | some sl =>
    rw [q] at z
    obtain ⟨s0, l0⟩ := sl
    obtain ⟨k1, k2⟩ := lstAt_ok q
    obtain ⟨a, ob, h1, h2, h3, h4, _⟩ := S.cell k1 k2
    cases h4 with
    | lst rr =>
      refine ⟨_, h1, .inl ⟨rfl, _, SqL.of h2⟩, ?_⟩
      exact sa B F ρ σ H _ S (EndG.cont z fun es ρ1 F1 H1 S1 e1 z1 vs rs => by
        cases q1 : lstAt ρ1 i with
        | none => rw [q1] at z1; exact z1.elim
        | some sl =>
          rw [q1] at z1
          obtain ⟨s1, l1⟩ := sl
          obtain ⟨k3, k4⟩ := lstAt_ok q1
          obtain ⟨a', ob', g1, g2, g3, g4, _⟩ := S1.cell k3 k4
          rw [h1] at g1
          cases g1
          cases g4 with
          | lst rr1 =>
            cases q2 : g l1 es with
            | none => simp only [q2] at z1; exact z1.elim
            | some dd =>
              obtain ⟨d, ds'⟩ := dd
              simp only [q2] at z1
              exact hg F1 H1 a _ l1 vs es d ds' Q S1.ex g2 rr1 rs q2 fun v xs' rx rv => z1 F1 _ (S1.write k3 k4 h1 (.lst rx)) (Ex.refl F1) v rv)
theorem de_cellM (hg : MtC X r g) (slot : Slot "list" name id) (hty : typeOf (.builtin id) = pure (.type "method_descriptor")) (hm : MtR X id r) (ho : PE X o to) (hto : to = tVar i) (ha : DA X W (e :: es) fa)
    (hbase : attributeBase o name X.env (eval o X.env) = eval o X.env := by rfl)
    (hfew : ((backTo cpos (starEach (e :: es) X.env)).all (fun x => !x.1) && (backToKw cpos (keywordEach [] X.env)).all (fun x => x.1.isSome)
      && decide ((e :: es).length + ([] : List Keyword).length + (if ([] : List Keyword).isEmpty then 0 else 1) < 30)) = true := by rfl)
    (hline : (apos.endLine == cpos.line) = true := by rfl) (hs : starEach (e :: es) X.env = (false, eval e X.env) :: starEach es X.env := by rfl) (hplain : (backTo cpos (starEach es X.env)).any (·.1) = false := by rfl) :
    DE X W (.Call (.Attribute o name apos) (e :: es) [] cpos) (cellM i g fa) := by
  subst hto
  obtain ⟨t, h1, s1⟩ := ha.ex
  exact ⟨_, pe_bm PySem.F.plainAttrs_list slot hty hm ho h1 hbase hfew hline hs hplain, cellM_snd hg s1⟩
theorem de_cellM0 (hg : MtC X r g) (slot : Slot "list" name id) (hty : typeOf (.builtin id) = pure (.type "method_descriptor")) (hm : MtR X id r) (ho : PE X o to) (hto : to = tVar i)
    (hbase : attributeBase o name X.env (eval o X.env) = eval o X.env := by rfl) (hline : (apos.endLine == cpos.line) = true := by rfl) :
    DE X W (.Call (.Attribute o name apos) [] [] cpos) (cellM i g aNil) := by
  subst hto
  exact ⟨_, pe_bm0 PySem.F.plainAttrs_list slot hty hm ho hbase hline, cellM_snd (t := tNil) hg fun B F ρ σ H Q S z => z F H S (Ex.refl F) [] .nil⟩
def gApp : List D → List D → Option (D × List D)
  | ds, [e] => if ds.length < 10000 then some (.non, ds ++ [e]) else none
  | _, _ => none
def gExt : List D → List D → Option (D × List D)
  | ds, [.lst es] => if ds.length + es.length ≤ 10000 then some (.non, ds ++ es) else none
  | _, _ => none
def gPop : List D → List D → Option (D × List D)
  | ds, [] => match ds[ds.length - 1]? with
    | some d => some (d, ds.dropLast)
    | none => none
  | _, _ => none
theorem g_app : MtC X rAppend gApp := by
  intro F H a xs ds vs es d ds' Q e ha rx rv hg k
  unfold gApp at hg
  split at hg
  · split at hg
    · cases hg
      cases rv with
      | cons h1 h2 =>
        cases h2
        refine ⟨a, xs, _, rfl, rfl, ha, Nat.lt_of_lt_of_le (by rw [rx.length]; assumption) (small4 (Nat.le_refl _)), k _ _ (rx.append (.one h1)) .non⟩
    · cases hg
  · cases hg
theorem g_ext : MtC X rExtend gExt := by
  intro F H a xs ds vs es d ds' Q e ha rx rv hg k
  unfold gExt at hg
  split at hg
  · split at hg
    · cases hg
      cases rv with
      | cons h1 h2 =>
        cases h2
        cases h1 with
        | lst h r => exact ⟨a, _, xs, _, rfl, rfl, ha, (e _ _ h).plain rfl, small4 (by rw [rx.length, r.length]; assumption), k _ _ (rx.append r) .non⟩
    · cases hg
  · cases hg
theorem g_pop : MtC X rPop gPop := by
  intro F H a xs ds vs es d ds' Q e ha rx rv hg k
  unfold gPop at hg
  split at hg
  · split at hg
    · rename_i d' hd
      cases hg
      cases rv
      obtain ⟨v, h1, h2⟩ := rx.get hd
      exact ⟨a, xs, v, rfl, rfl, ha, by rw [rx.length]; exact h1, k _ _ rx.dropLast h2⟩
    · cases hg
  · cases hg
/-- x[i] = e -/
def sPutIx (i : Nat) (fe : EnvD → Rs D) (fi : EnvD → Rs D) : EnvD → RS := fun ρ => (fe ρ).bindS fun d ρ1 => match viewD ρ1 i with
  | none => .bad
  | some _ => (fi ρ1).bindS fun k ρ2 => match lstAt ρ2 i with
    | none => .bad
    | some (s, ds) => match k with
      | .int n => match ixN ds.length n with
        | some j => .nx (ρ2.set i (reCell s (.lst (ds.set j d))))
        | none => .bad
      | _ => .bad
theorem ds_putIx {ix : Expr} {fe fi : EnvD → Rs D} {pos spos : Pos} (ho : PE X o to) (hto : to = tVar i) (he : DE X W e fe) (hi : DE X W ix fi)
    (ha : ∀ v, assign (.Subscript o ix spos) X.env v = (do
      let ov ← holding [v] (eval o X.env)
      let iv ← holding [v, ov] (eval ix X.env)
      standAt spos
      holding [v, ov, iv] (setItem ov iv v)
      release [v, ov, iv] []) := by intro _; rfl)
    (hs : swapsWithSole [.Subscript o ix spos] e pos.line X.env = pure false := by rfl) (hw : swappedStores [.Subscript o ix spos] e X.env = pure none := by rfl) : DS X W (.Assign [.Subscript o ix spos] e pos) (sPutIx i fe fi) := by
  subst hto
  obtain ⟨te, h1, s1⟩ := he.ex
  obtain ⟨ti, h2, s2⟩ := hi.ex
  refine ⟨_, ps_asg h1 (pg_sub ho h2 set_list ha) hs hw, fun B F ρ σ H Dn S z => ?_⟩
  exact s1 B F ρ σ H _ S (EndS.cont z fun d ρ1 F1 H1 S1 e1 z1 v rv => by
    cases q : viewD ρ1 i with
    | none => rw [q] at z1; exact z1.elim
    | some dd =>
      rw [q] at z1
      obtain ⟨ov, h3⟩ := slot_v S1 q
      refine ⟨ov, h3, s2 B F1 ρ1 σ H1 _ S1 (EndS.cont z1 fun k ρ2 F2 H2 S2 e2 z2 u ru => ?_)⟩
      cases q1 : lstAt ρ2 i with
      | none => rw [q1] at z2; exact z2.elim
      | some sl =>
        rw [q1] at z2
        obtain ⟨s, ds⟩ := sl
        obtain ⟨k3, k4⟩ := lstAt_ok q1
        obtain ⟨a', ob', g1, g2, g3, g4, _⟩ := S2.cell k3 k4
        rw [h3] at g1
        cases g1
        cases g4 with
        | lst rr =>
          cases k with
          | int n =>
            cases ru
            simp only at z2
            cases q2 : ixN ds.length n with
            | none => rw [q2] at z2; exact z2.elim
            | some j =>
              rw [q2] at z2
              refine ⟨a', _, n, j, rfl, rfl, g2, by rw [rr.length]; exact q2, ?_⟩
              exact z2 σ F2 _ (S2.write k3 k4 h3 (.lst (rr.set (rv.ext e2) j))) (Ex.refl F2)
          | _ => exact z2.elim)
/-- target = e, the target any pattern of names -/
def sAsg (fe : EnvD → Rs D) (g : D → EnvD → Option EnvD) : EnvD → RS := fun ρ => (fe ρ).bindS fun d ρ1 => match g d ρ1 with
  | some ρ2 => .nx ρ2
  | none => .bad
theorem ds_asg {tg : Expr} {pos : Pos} {vs : List Nat} {fe : EnvD → Rs D} {g : D → EnvD → Option EnvD} (hg : DG X tg vs g) (he : DE X W e fe) (hs : swapsWithSole [tg] e pos.line X.env = pure false := by rfl) (hw : swappedStores [tg] e X.env = pure none := by rfl)
    (h1 : (assignEach [tg] X.env).map (·.2) = [assign tg X.env] := by rfl) : DS X W (.Assign [tg] e pos) (sAsg fe g) := by
  obtain ⟨te, p1, s1⟩ := he.ex
  obtain ⟨t, p2, s2⟩ := hg.ex
  refine ⟨_, ps_asg p1 p2 hs hw h1, fun B F ρ σ H Dn S z => ?_⟩
  exact s1 B F ρ σ H _ S (EndS.cont z fun d ρ1 F1 H1 S1 e1 z1 v rv => by
    cases q : g d ρ1 with
    | none => rw [q] at z1; exact z1.elim
    | some ρ2 =>
      rw [q] at z1
      exact s2 B F1 ρ1 σ H1 v d ρ2 _ S1 rv q fun σ' S' _ => z1 σ' F1 H1 S' (Ex.refl F1))
/-- return x, x a name -/
theorem ds_retx {i : Nat} {x : Str} {p pos : Pos} (hN : X.N[i]? = some x := by rfl) (hv : Vis X.env.scope x := by first | exact Or.inl rfl | exact Or.inr (Or.inl rfl) | exact Or.inr (Or.inr rfl)) (hd : (x == ("__debug__" : Str)) = false := by decide)
    (hcd : (x == ("__classdict__" : Str)) = false := by decide) : DS X W (.Return (some (.Name x p)) pos) (sRetV i) := ds_retV (pe_var hN hv hd hcd) rfl
end

end DL

/-! The data layer, 11: parallel assignment. -/
namespace DL
open PySem PySem.Spec PyProof.Rows L2
/-! ### several values, some of them new objects -/
inductive MI where
  | d (x : D) | n (co : CO)
def NewIn (b : Addr) : List V → List MI → Prop
  | v :: vs, .n _ :: ms => v = .ref b ∨ NewIn b vs ms
  | _ :: vs, .d _ :: ms => NewIn b vs ms
  | _, _ => False
def MReps (K : PySem.W.Frag) (mg : Str → Option Value) (B : Bs) (F H : Hp) (ρ : EnvD) (σ : L2.St) : List V → List MI → Prop
  | [], [] => True
  | v :: vs, .d x :: ms => Rep K mg F v x ∧ MReps K mg B F H ρ σ vs ms
  | v :: vs, .n co :: ms => (∃ a, v = .ref a ∧ NewAt K mg B F H ρ σ a co ∧ ¬ NewIn a vs ms) ∧ MReps K mg B F H ρ σ vs ms
  | _, _ => False
def CO.dc : CO → Bool
  | .dk _ => true
  | .dt _ => true
  | _ => false
section
variable {K : PySem.W.Frag} {mg : Str → Option Value} {B : Bs} {F F' : Hp} {σ : L2.St} {ρ : EnvD} {H H' : Hp} {W : WX}
theorem mreps_new : ∀ {vs : List V} {ms : List MI} {b : Addr}, MReps K mg B F H ρ σ vs ms → NewIn b vs ms → B.H0 b = none
  | [], [], _, _, h => h.elim
  | v :: vs, .d x :: ms, _, ⟨_, r⟩, h => mreps_new r h
  | v :: vs, .n co :: ms, b, ⟨⟨a, h1, N, _⟩, r⟩, h => by
    rcases h with h | h
    · rw [h1] at h; cases h; exact N.n0
    · exact mreps_new r h
  | [], .d _ :: _, _, h, _ => h.elim
  | [], .n _ :: _, _, h, _ => h.elim
  | _ :: _, [], _, h, _ => h.elim
/-- told of another base, of other slots -/
theorem MReps.re {B' : Bs} {ρ' : EnvD} {σ' : L2.St} : ∀ {vs : List V} {ms : List MI}, MReps K mg B F H ρ σ vs ms → (∀ b, NewIn b vs ms → B.H0 b = none → B'.H0 b = none) → (∀ b, NewIn b vs ms → (∀ i, ¬ CellAt ρ σ i b) → ∀ i, ¬ CellAt ρ' σ' i b) → MReps K mg B' F H ρ' σ' vs ms
  | [], [], _, _, _ => trivial
  | v :: vs, .d x :: ms, ⟨h, r⟩, k1, k2 => ⟨h, r.re k1 k2⟩
  | v :: vs, .n co :: ms, ⟨⟨a, h1, N, h2⟩, r⟩, k1, k2 => ⟨⟨a, h1, ⟨N.at_, N.nF, k1 a (.inl h1) N.n0, k2 a (.inl h1) N.nC⟩, h2⟩, r.re (fun b h => k1 b (.inr h)) (fun b h => k2 b (.inr h))⟩
  | [], .d _ :: _, h, _, _ => h.elim
  | [], .n _ :: _, h, _, _ => h.elim
  | _ :: _, [], h, _, _ => h.elim
theorem COr.dc {o : HO} {co : CO} (h : COr K mg F o co) (hd : co.dc = false) : isDc o = false := by cases h <;> first | rfl | cases hd
/-- something runs while the new object at a is held -/
theorem EndG.held {α β : Type} {P : β → EnvD → Hp → Hp → Prop} {P' : α → EnvD → Hp → Hp → Prop} {f : Rs α} {k : α → EnvD → Rs β} {a : Addr} {o : HO} (S : StR K mg B F ρ σ H) (hF : F a = none) (h0 : B.H0 a = none) (hd : isDc o = false) (z : EndG K mg B F σ W P (f.bind k))
    (hk : ∀ x ρ1 F1 H1, StR K mg B F1 ρ1 σ H1 → Ex F F1 → H1 a = some o → F1 a = none → (∀ i, ¬ CellAt ρ1 σ i a) → EndG K mg B F1 σ W P (k x ρ1) → P' x ρ1 F1 H1) : EndG K mg (B.hold a o) F σ W P' f := by
  have hp : ∀ i b, B.C0 i = some b → B.H0 b ≠ none := fun i b e => (S.parF i b e).2.2.1
  have hF0 : B.F0 a = none := S.ex0.none hF
  cases f with
  | ok x ρ1 =>
    intro F' H' s e
    obtain ⟨s2, g1, g2, g3⟩ := s.unhold h0 hd hp hF0
    exact hk x ρ1 F' H' s2 e g1 g2 g3 (EndG.ext e z)
  | ex c fs ρ1 =>
    intro cls dd F' H' s e
    obtain ⟨s2, _⟩ := s.unhold h0 hd hp hF0
    exact z cls dd F' H' s2 e
  | bad => exact z
end
section
variable (X : Cx) (W : WX)
abbrev PM (K : PySem.W.Frag) (mg : Str → Option Value) (B : Bs) (σ : L2.St) (Q : List V → Hp → Prop) : List MI → EnvD → Hp → Hp → Prop := fun ms ρ F' H' => ∀ vs, MReps K mg B F' H' ρ σ vs ms → Q vs H'
def MSnd (ta : TA) (f : EnvD → Rs (List MI)) : Prop := ∀ B F ρ σ H Q, StR X.K X.mg B F ρ σ H → EndG X.K X.mg B F σ W (PM X.K X.mg B σ Q) (f ρ) → ta σ H Q
structure MA (es : List Expr) (f : EnvD → Rs (List MI)) : Prop where mk :: ex : ∃ te, PA X es te ∧ MSnd X W te f
end
def mNil : EnvD → Rs (List MI) := fun ρ => .ok [] ρ
def mD (f : EnvD → Rs D) (g : EnvD → Rs (List MI)) : EnvD → Rs (List MI) := fun ρ => (f ρ).bind fun x ρ1 => (g ρ1).bind fun ms ρ2 => .ok (.d x :: ms) ρ2
def mN (f : EnvD → Rs CO) (g : EnvD → Rs (List MI)) : EnvD → Rs (List MI) := fun ρ => (f ρ).bind fun co ρ1 => if co.dc = true then .bad else (g ρ1).bind fun ms ρ2 => .ok (.n co :: ms) ρ2
section
variable {X : Cx} {W : WX} {e : Expr} {es : List Expr}
theorem ma_nil : MA X W [] mNil := ⟨_, pa_nil, fun B F ρ σ H Q S z => z F H S (Ex.refl F) [] trivial⟩
theorem ma_d {f : EnvD → Rs D} {g : EnvD → Rs (List MI)} (h1 : DE X W e f) (h2 : MA X W es g) (hs : starEach (e :: es) X.env = (false, eval e X.env) :: starEach es X.env := by rfl) : MA X W (e :: es) (mD f g) := by
  obtain ⟨_, p1, s1⟩ := h1.ex
  obtain ⟨_, p2, s2⟩ := h2.ex
  refine ⟨_, pa_cons p1 p2 hs, fun B F ρ σ H Q S z => ?_⟩
  exact s1 B F ρ σ H _ S (EndG.cont z fun d ρ1 F1 H1 S1 e1 z1 v r =>
    s2 B F1 ρ1 σ H1 _ S1 (EndG.cont z1 fun ds ρ2 F2 H2 S2 e2 z2 vs rs => z2 F2 H2 S2 (Ex.refl F2) (v :: vs) ⟨r.ext e2, rs⟩))
theorem ma_n {f : EnvD → Rs CO} {g : EnvD → Rs (List MI)} (h1 : NE X W e f) (h2 : MA X W es g) (hs : starEach (e :: es) X.env = (false, eval e X.env) :: starEach es X.env := by rfl) : MA X W (e :: es) (mN f g) := by
  obtain ⟨_, p1, s1⟩ := h1.ex
  obtain ⟨_, p2, s2⟩ := h2.ex
  refine ⟨_, pa_cons p1 p2 hs, fun B F ρ σ H Q S z => ?_⟩
  refine s1 B F ρ σ H _ S (EndG.cont z fun co ρ1 F1 H1 S1 e1 z1 a N => ?_)
  cases hd : co.dc with
  | true => rw [if_pos hd] at z1; exact z1.elim
  | false =>
    rw [if_neg (by rw [hd]; decide)] at z1
    obtain ⟨⟨o, ha, hr⟩, nF, n0, nC⟩ := N
    have hd' := hr.dc hd
    refine s2 (B.hold a o) F1 ρ1 σ H1 _ (S1.hold ha nF n0 nC) (EndG.held S1 nF n0 hd' z1 fun ms ρ2 F2 H2 S2 e2 ha2 hF2 hC2 z2 vs rs => ?_)
    have hn : ∀ b, NewIn b vs ms → b ≠ a := fun b hb c => by
      have := mreps_new rs hb
      have this : upd B.H0 a o b = none := this
      rw [c, upd_same] at this
      cases this
    refine z2 F2 H2 S2 (Ex.refl F2) (.ref a :: vs) ⟨⟨a, rfl, ⟨⟨o, ha2, hr.ext e2⟩, hF2, n0, hC2⟩, fun hb => hn a hb rfl⟩, rs.re (fun b hb h => ?_) (fun b hb h => h)⟩
    have h : upd B.H0 a o b = none := h
    rw [upd_ne (hn b hb)] at h
    exact h
end
/-- the values to the slots, one after the other -/
def parS : List Nat → List MI → EnvD → Option EnvD
  | [], [], ρ => some ρ
  | i :: is, .d x :: ms, ρ => if isP ρ i = true then none else parS is ms (ρ.set i (.t x))
  | i :: is, .n co :: ms, ρ => if isP ρ i = true then none else parS is ms (ρ.set i (.c co))
  | _, _, _ => none
def setAll : L2.St → List Nat → List V → L2.St
  | σ, i :: is, v :: vs => setAll (σ.set i (some v)) is vs
  | σ, _, _ => σ
def sPar (is : List Nat) (f : EnvD → Rs (List MI)) : EnvD → RS := fun ρ => (f ρ).bindS fun ms ρ1 => match parS is ms ρ1 with
  | some ρ2 => .nx ρ2
  | none => .bad
section
variable {K : PySem.W.Frag} {mg : Str → Option Value} {B : Bs} {F F' : Hp} {H H' : Hp} {W : WX}
theorem cellAt_put {ρ : EnvD} {σ : L2.St} {i j : Nat} {b : Addr} {x : D} {v : V} (h : CellAt (ρ.set i (.t x)) (σ.set i (some v)) j b) : CellAt ρ σ j b := by
  obtain ⟨⟨s, c', q, hc⟩, q2⟩ := h
  rcases getset q with ⟨rfl, rfl, _⟩ | ⟨hj, q⟩
  · simp [isCell] at hc
  · rw [List.getElem?_set_ne (Ne.symm hj)] at q2
    exact ⟨⟨s, c', q, hc⟩, q2⟩
theorem cellAt_putN {ρ : EnvD} {σ : L2.St} {i j : Nat} {a b : Addr} {co : CO} (hl : ρ.length = σ.length) (h : CellAt (ρ.set i (.c co)) (σ.set i (some (.ref a))) j b) : b = a ∨ CellAt ρ σ j b := by
  obtain ⟨⟨s, c', q, hc⟩, q2⟩ := h
  rcases getset q with ⟨rfl, rfl, hl'⟩ | ⟨hj, q⟩
  · rw [List.getElem?_set_self (by rw [← hl]; exact hl')] at q2
    cases q2
    exact .inl rfl
  · rw [List.getElem?_set_ne (Ne.symm hj)] at q2
    exact .inr ⟨⟨s, c', q, hc⟩, q2⟩
theorem par_ok : ∀ {is : List Nat} {ms : List MI} {vs : List V} {ρ ρ' : EnvD} {σ : L2.St}, StR K mg B F ρ σ H → MReps K mg B F H ρ σ vs ms → parS is ms ρ = some ρ' → StR K mg B F ρ' (setAll σ is vs) H ∧ vs.length = is.length
  | [], [], [], ρ, ρ', σ, S, _, h => by cases h; exact ⟨S, rfl⟩
  | i :: is, .d x :: ms, v :: vs, ρ, ρ', σ, S, ⟨r, rs⟩, h => by
    unfold parS at h
    cases q : isP ρ i with
    | true => rw [if_pos q] at h; cases h
    | false =>
      rw [if_neg (by rw [q]; decide)] at h
      have S1 := S.put r (isP_no q)
      obtain ⟨g1, g2⟩ := par_ok (is := is) S1 (rs.re (fun _ _ h => h) (fun b _ hb j hc => hb j (cellAt_put hc))) h
      exact ⟨g1, by rw [List.length_cons, List.length_cons, g2]⟩
  | i :: is, .n co :: ms, v :: vs, ρ, ρ', σ, S, ⟨⟨a, h1, N, h2⟩, rs⟩, h => by
    unfold parS at h
    cases q : isP ρ i with
    | true => rw [if_pos q] at h; cases h
    | false =>
      rw [if_neg (by rw [q]; decide)] at h
      subst h1
      have S1 := S.putN N (isP_no q)
      obtain ⟨g1, g2⟩ := par_ok (is := is) S1 (rs.re (fun _ _ h => h) (fun b hb hc j hj => by
        rcases cellAt_putN S.len hj with e | e
        · rw [e] at hb; exact h2 hb
        · exact hc j e)) h
      exact ⟨g1, by rw [List.length_cons, List.length_cons, g2]⟩
  | [], .d _ :: _, _, _, _, _, _, _, h => by cases h
  | [], .n _ :: _, _, _, _, _, _, _, h => by cases h
  | _ :: _, [], _, _, _, _, _, _, h => by cases h
  | [], [], _ :: _, _, _, _, _, h, _ => h.elim
  | _ :: _, .d _ :: _, [], _, _, _, _, h, _ => h.elim
  | _ :: _, .n _ :: _, [], _, _, _, _, h, _ => h.elim
end
section
variable {X : Cx} {W : WX} {i j l : Nat} {x y z : Str} {a b c : Expr} {f : EnvD → Rs (List MI)} {px py pz pt pos : Pos} {kt k2 pt2}
theorem par_snd {ta : TA} {is : List Nat} {t : TS} (sa : MSnd X W ta f) (ht : ∀ D σ H, (ta σ H fun vs H1 => vs.length = is.length ∧ D.nx (setAll σ is vs) H1) → t D σ H) : SSnd X W t (sPar is f) := fun B F ρ σ H Dn S z =>
  ht Dn σ H (sa B F ρ σ H _ S (EndS.cont z fun ms ρ1 F1 H1 S1 e1 z1 vs rs => by
    cases q : parS is ms ρ1 with
    | none => rw [q] at z1; exact z1.elim
    | some ρ2 =>
      rw [q] at z1
      obtain ⟨g1, g2⟩ := par_ok S1 rs q
      exact ⟨g2, z1 _ F1 H1 g1 (Ex.refl F1)⟩))
theorem MSnd.mono {ta : TA} (hm : ∀ σ H (Q Q' : List V → Hp → Prop), (∀ vs H, Q vs H → Q' vs H) → ta σ H Q → ta σ H Q') {σ : L2.St} {H : Hp} {Q Q' : List V → Hp → Prop} (h : ta σ H Q) (k : ∀ vs H, Q vs H → Q' vs H) : ta σ H Q' := hm σ H Q Q' k h
theorem ds_par (hc : X.calm = true) (hN : X.N.Nodup) (hi : X.N[i]? = some x) (hj : X.N[j]? = some y) (hij : i ≠ j) (hx : X.env.scope.names.lookup x = some .local) (hy : X.env.scope.names.lookup y = some .local) (ha : MA X W [a, b] f)
    (hw : swappedStores [.Tuple [.Name x px, .Name y py] kt pt] (.Tuple [a, b] k2 pt2) X.env = pure (some [x, y]) := by rfl)
    (hs : swapsWithSole [.Tuple [.Name x px, .Name y py] kt pt] (.Tuple [a, b] k2 pt2) pos.line X.env = pure false := by rfl) :
    DS X W (.Assign [.Tuple [.Name x px, .Name y py] kt pt] (.Tuple [a, b] k2 pt2) pos) (sPar [i, j] f) := by
  obtain ⟨t, h1, s1⟩ := ha.ex
  refine ⟨_, ps_par hc hN hi hj hij hx hy h1 hw hs, fun B F ρ σ H Dn S z => ?_⟩
  exact s1 B F ρ σ H _ S (EndS.cont z fun ms ρ1 F1 H1 S1 e1 z1 vs rs => by
    cases q : parS [i, j] ms ρ1 with
    | none => rw [q] at z1; exact z1.elim
    | some ρ2 =>
      rw [q] at z1
      obtain ⟨g1, g2⟩ := par_ok S1 rs q
      match vs, g2 with
      | [v, w], _ => exact ⟨v, w, rfl, z1 _ F1 H1 g1 (Ex.refl F1)⟩)
theorem ds_par3 (hc : X.calm = true) (hN : X.N.Nodup) (hi : X.N[i]? = some x) (hj : X.N[j]? = some y) (hl : X.N[l]? = some z) (hij : i ≠ j) (hil : i ≠ l) (hjl : j ≠ l) (hx : X.env.scope.names.lookup x = some .local) (hy : X.env.scope.names.lookup y = some .local) (hz : X.env.scope.names.lookup z = some .local) (ha : MA X W [a, b, c] f)
    (hw : swappedStores [.Tuple [.Name x px, .Name y py, .Name z pz] kt pt] (.Tuple [a, b, c] k2 pt2) X.env = pure (some [x, y, z]) := by rfl)
    (hs : swapsWithSole [.Tuple [.Name x px, .Name y py, .Name z pz] kt pt] (.Tuple [a, b, c] k2 pt2) pos.line X.env = pure false := by rfl) :
    DS X W (.Assign [.Tuple [.Name x px, .Name y py, .Name z pz] kt pt] (.Tuple [a, b, c] k2 pt2) pos) (sPar [i, j, l] f) := by
  obtain ⟨t, h1, s1⟩ := ha.ex
  refine ⟨_, ps_par3 hc hN hi hj hl hij hil hjl hx hy hz h1 hw hs, fun B F ρ σ H Dn S z => ?_⟩
  exact s1 B F ρ σ H _ S (EndS.cont z fun ms ρ1 F1 H1 S1 e1 z1 vs rs => by
    cases q : parS [i, j, l] ms ρ1 with
    | none => rw [q] at z1; exact z1.elim
    | some ρ2 =>
      rw [q] at z1
      obtain ⟨g1, g2⟩ := par_ok S1 rs q
      match vs, g2 with
      | [v, w, u], _ => exact ⟨v, w, u, rfl, z1 _ F1 H1 g1 (Ex.refl F1)⟩)
end
end DL

/-! The data layer, 12: cells lent to a callee; list(range(..)); + of any kind. -/
namespace DL
open PySem PySem.Spec PyProof.Rows L2

/-! ### a call that only reads: cells are lent, the result is a plain value -/
def scalD : D → Bool
  | .non => true
  | .bl _ => true
  | .int _ => true
  | .str _ => true
  | _ => false
def RF.toB (ρ : EnvD) : RF → Rs D
  | .ok d _ => if scalD d = true then .ok d ρ else .bad
  | _ => .bad
def callB (ar : Nat) (m : Mir) (dds : List D) (f : EnvD → Rs (List PD)) : EnvD → Rs D := fun ρ => (f ρ).bind fun ps ρ1 => match getAll ρ1 ps with
  | none => .bad
  | some ds => if (ds ++ dds).length = ar then (m ((ds ++ dds).map .t)).toB ρ1 else .bad
section
variable {X : Cx} {W : WX} {B : Bs} {F : Hp} {σ : L2.St} {ρ : EnvD} {H : Hp}
theorem scal_rep {K : PySem.W.Frag} {mg : Str → Option Value} {F F' : Hp} {v : V} {d : D} (h : Rep K mg F v d) (hd : scalD d = true) : Rep K mg F' v d := by
  cases h with
  | non => exact .non
  | bl b => exact .bl b
  | int i => exact .int i
  | str x => exact .str x
  | _ => cases hd
/-- all that stands now, what was known ahead of it -/
def lent (F H : Hp) : Hp := fun a => match F a with
  | some o => some o
  | none => H a
theorem lent_ex : Ex F (lent F H) := fun a o h => by unfold lent; rw [h]
theorem lent_exD (e : ExD F H) : ExD (lent F H) H := fun a o h => by
  unfold lent at h
  cases q : F a with
  | none => rw [q] at h; exact .inl h
  | some u => rw [q] at h; cases h; exact e a _ q
theorem RepV.lent (e : ExD F H) {v : V} {d : D} (hn : ∀ a o co, v = .ref a → H a = some o → COr X.K X.mg F o co → F a = none) (h : RepV X.K X.mg F H v d) : Rep X.K X.mg (lent F H) v d := by
  rcases h with h | ⟨a, o, co, h1, h2, h3, h4⟩
  · exact h.ext lent_ex
  · subst h1 h4
    exact (h3.ext lent_ex).rep (by unfold DL.lent; rw [hn a o co rfl h2 h3]; exact h2)
theorem PRep.lent (S : StR X.K X.mg B F ρ σ H) {v : V} {p : PD} {d : D} (h : PRep X.K X.mg F σ v p) (g : p.get ρ = some d) : Rep X.K X.mg (lent F H) v d := by
  cases p with
  | d x => cases g; exact Rep.ext lent_ex h
  | v i =>
    have h : σ[i]? = some (some v) := h
    simp only [PD.get, viewD] at g
    cases e : ρ[i]? with
    | none => rw [e] at g; cases g
    | some s =>
      rw [e] at g
      have z := S.slot i s e
      have cell : ∀ co, CellR X.K X.mg F H σ[i]? co → Rep X.K X.mg (DL.lent F H) v co.d := fun co ⟨a, o, h1, h2, h3, h4⟩ => by
        rw [h] at h1
        cases h1
        exact (h4.ext lent_ex).rep (by unfold DL.lent; rw [h3]; exact h2)
      cases s with
      | no => cases g
      | t x =>
        cases g
        obtain ⟨u, h1, h2⟩ := z
        rw [h] at h1; cases h1
        exact h2.ext lent_ex
      | c co => cases g; exact cell co z
      | p co => cases g; exact cell co z
theorem PReps.lent (S : StR X.K X.mg B F ρ σ H) : ∀ {vs : List V} {ps : List PD} {ds : List D}, PReps X.K X.mg F σ vs ps → getAll ρ ps = some ds → Reps X.K X.mg (lent F H) vs ds
  | [], [], _, _, g => by cases g; exact .nil
  | v :: vs, p :: ps, ds, ⟨h, r⟩, g => by
    obtain ⟨d, h1, g⟩ := Option.bind_eq_some_iff.mp g
    obtain ⟨ds', h2, g⟩ := Option.map_eq_some_iff.mp g
    subst g
    exact .cons (h.lent S h1) (PReps.lent S r h2)
  | [], _ :: _, _, h, _ => h.elim
  | _ :: _, [], _, h, _ => h.elim
theorem argsR_t {K : PySem.W.Frag} {mg : Str → Option Value} {F H : Hp} : ∀ {vs : List V} {ds : List D}, Reps K mg F vs ds → ArgsR K mg F H vs (ds.map .t)
  | _, _, .nil => trivial
  | _, _, .cons h r => ⟨h, argsR_t r⟩
theorem ioAddr_t : ∀ (vs : List V) (ds : List D), ioAddr vs (ds.map .t) = []
  | [], [] => rfl
  | [], _ :: _ => rfl
  | .ref _ :: _, [] => rfl
  | .non :: _, [] => rfl
  | .bl _ :: _, [] => rfl
  | .int _ :: _, [] => rfl
  | .str _ :: _, [] => rfl
  | .byt _ :: _, [] => rfl
  | .flt _ :: _, [] => rfl
  | .ty _ :: _, [] => rfl
  | v :: vs, d :: ds => by
    have := ioAddr_t vs ds
    cases v <;> exact this
variable {x : Str} {k ar : Nat} {m : Mir} {dds : List D} {e : Expr} {es : List Expr} {p pos : Pos} {fa : EnvD → Rs (List PD)}
theorem tcall_B {dvs : List V} {t : TA} (sa : OASnd X W t fa) (hd : ∀ F, Reps X.K X.mg F dvs dds) : DSnd X W (tCallSD (spD X.K X.mg ar m) dvs (WE W) t) (callB ar m dds fa) := fun B F ρ σ H Q S z =>
  sa B F ρ σ H _ S (EndG.cont z fun ps ρ1 F1 H1 S1 e1 z1 vs hv => by
    cases q : getAll ρ1 ps with
    | none => rw [q] at z1; exact z1.elim
    | some ds =>
      rw [q] at z1
      simp only at z1
      by_cases hl : (ds ++ dds).length = ar
      · rw [if_pos hl] at z1
        have rs := (hv.lent S1 q).append (hd (lent F1 H1))
        refine ⟨lent F1 H1, (ds ++ dds).map .t, by rw [rs.length]; exact hl, lent_exD S1.ex, argsR_t rs, by rw [ioAddr_t]; exact List.nodup_nil, ?_⟩
        cases q2 : m ((ds ++ dds).map .t) with
        | bad => rw [q2] at z1; exact z1.elim
        | okN co outs => rw [q2] at z1; exact z1.elim
        | ex c fs outs => rw [q2] at z1; exact z1.elim
        | ok d outs =>
          rw [q2] at z1
          unfold RF.toB at z1
          simp only at z1
          by_cases hs : scalD d = true
          · rw [if_pos hs] at z1
            intro v F' H' b r
            have ex : Ex H1 H' := fun a o h => b.frame a o h (by rw [ioAddr_t]; simp)
            exact z1 F1 H' (S1.grow ex) (Ex.refl F1) v (scal_rep r hs)
          · rw [if_neg hs] at z1; exact z1.elim
      · rw [if_neg hl] at z1; exact z1.elim)
theorem de_callL (h : Fnd X.prog X.w X.K X.mg X.base x k ar m dds) (hr : Room k X.A) (tk : Takes X W) (ha : OA X W (e :: es) fa) (hg : Gl X x := by rfl)
    (hdb : (x == ("__debug__" : Str)) = false := by decide) (he : starEach (e :: es) X.env = (false, eval e X.env) :: starEach es X.env := by rfl) (hpl : (backTo pos (starEach es X.env)).any (·.1) = false := by rfl) : DE X W (.Call (.Name x p) (e :: es) [] pos) (callB ar m dds fa) :=
  let ⟨f, hm, hk, fd, ps, ds, dvs, F, hb, hd, hf⟩ := h; let ⟨t, h1, s1⟩ := ha.ex; ⟨_, pe_callSD F hr hg hm hk hb hd (fun σ => passAt tk σ) h1 hdb he hpl, tcall_B s1 hf⟩
end

/-! ### list(range(..)) -/
def rgD (a b : Int) : Option CO := if smallR a = true ∧ smallR b = true ∧ (b - a).toNat ≤ 10000 then some (.lst (rngD a b)) else none
def rg1D : D → Option CO
  | .int n => rgD 0 n
  | _ => none
def rg2D : D → D → Option CO
  | .int a, .int b => rgD a b
  | _, _ => none
theorem rngD_reps {K : PySem.W.Frag} {mg : Str → Option Value} {F : Hp} (a b : Int) : Reps K mg F (rgV a b) (rngD a b) := by
  unfold rgV rngD
  induction List.range (b - a).toNat with
  | nil => exact .nil
  | cons x l ih => exact .cons (.int _) ih
theorem rgOk_of {a b : Int} {co : CO} (h : rgD a b = some co) : RgOk a b ∧ co = .lst (rngD a b) := by
  unfold rgD at h
  split at h
  · rename_i c
    cases h
    obtain ⟨c1, c2, c3⟩ := c
    have c1 := smallR_of c1
    have c2 := smallR_of c2
    exact ⟨⟨c1.1, c1.2, c2.1, c2.2, Nat.le_trans c3 (by decide)⟩, rfl⟩
  · cases h
section
variable {X : Cx} {W : WX} {a b : Expr} {pa pb : EnvD → Rs PD} {p pos p2 pos2 : Pos}
theorem ne_listRg1 (hc : X.calm = true) (hl : X.mg "list" = none) (hm : X.mg "range" = none) (ha : OE X W a pa) (hg : Gl X "list" := by rfl) (hg2 : Gl X "range" := by rfl) (na : starEach [a] X.env = (false, eval a X.env) :: starEach [] X.env := by rfl)
    (nb : starEach [.Call (.Name "range" p2) [a] [] pos2] X.env = (false, eval (.Call (.Name "range" p2) [a] [] pos2) X.env) :: starEach [] X.env := by rfl) : NE X W (.Call (.Name "list" p) [.Call (.Name "range" p2) [a] [] pos2] [] pos) (nOp1 rg1D pa) := by
  obtain ⟨_, h1, s1⟩ := ha.ex
  refine ⟨_, pe_listRg hc hg hl (prg_1 hg2 hm h1 na) nb, fun B F ρ σ H Q S z => ?_⟩
  exact s1 B F ρ σ H _ S (EndG.cont z fun q ρ1 F1 H1 S1 e1 z1 v hv => by
    obtain ⟨co, hd, z2⟩ := z1.opt
    obtain ⟨dx, g1, g2⟩ := Option.bind_eq_some_iff.mp hd
    cases dx with
    | int n =>
      cases (hv.get S1 g1).int
      obtain ⟨k1, rfl⟩ := rgOk_of (show rgD 0 n = some co from g2)
      refine ⟨n, rfl, k1, fun q hq => ?_⟩
      obtain ⟨S3, N⟩ := S1.newAt hq (COr.lst (rngD_reps 0 n))
      exact z2 F1 _ S3 (Ex.refl F1) q N
    | _ => cases g2)
theorem ne_listRg2 (hc : X.calm = true) (hl : X.mg "list" = none) (hm : X.mg "range" = none) (ha : OE X W a pa) (hb : OE X W b pb) (hg : Gl X "list" := by rfl) (hg2 : Gl X "range" := by rfl) (na : starEach [a, b] X.env = (false, eval a X.env) :: starEach [b] X.env := by rfl)
    (nb' : starEach [b] X.env = (false, eval b X.env) :: starEach [] X.env := by rfl) (hp : (backTo pos2 (starEach [b] X.env)).any (·.1) = false := by rfl)
    (nb : starEach [.Call (.Name "range" p2) [a, b] [] pos2] X.env = (false, eval (.Call (.Name "range" p2) [a, b] [] pos2) X.env) :: starEach [] X.env := by rfl) : NE X W (.Call (.Name "list" p) [.Call (.Name "range" p2) [a, b] [] pos2] [] pos) (nOp2 rg2D pa pb) := by
  obtain ⟨_, h1, s1⟩ := ha.ex
  obtain ⟨_, h2, s2⟩ := hb.ex
  refine ⟨_, pe_listRg hc hg hl (prg_2 hg2 hm h1 h2 na nb' hp) nb, fun B F ρ σ H Q S z => ?_⟩
  refine two_snd s1 s2 S z fun ρ2 F2 H2 x y dx dy co S2 hx hy g2 z2 => ?_
  cases dx with
  | int i =>
    cases dy with
    | int j =>
      cases hx.int
      cases hy.int
      obtain ⟨k1, rfl⟩ := rgOk_of (show rgD i j = some co from g2)
      refine ⟨i, j, rfl, rfl, k1, fun q hq => ?_⟩
      obtain ⟨S3, N⟩ := S2.newAt hq (COr.lst (rngD_reps i j))
      exact z2 F2 _ S3 (Ex.refl F2) q N
    | _ => cases g2
  | _ => cases g2
end

/-! ### operations that give a new object, as data -/
def fzOp (g : D → D → Option CO) (x y : D) : Option D := (g x y).map CO.d
def orOp (g h : D → D → Option D) (x y : D) : Option D := match g x y with
  | some d => some d
  | none => h x y
section
variable {X : Cx}
theorem o2_fz {r : R2} {g : D → D → Option CO} (h : Op2N X r g) : Op2D X r (fzOp g) := fun B F ρ σ H x y dx dy d Q S hx hy hd k => by
  obtain ⟨co, h1, rfl⟩ := Option.map_eq_some_iff.mp hd
  exact h B F ρ σ H x y dx dy co Q S hx hy h1 fun a F' H' S' e N => by
    obtain ⟨F2, S2, e2, r⟩ := S'.fz N
    exact k _ F2 H' S2 (e.trans e2) r
theorem o2_or {r r' : R2} {g h : D → D → Option D} (hg : Op2D X r g) (hh : Op2D X r' h) : Op2D X (fun x y H Q => r x y H Q ∨ r' x y H Q) (orOp g h) := fun B F ρ σ H x y dx dy d Q S hx hy hd k => by
  unfold orOp at hd
  split at hd
  · rename_i d' e
    cases hd
    exact .inl (hg B F ρ σ H x y dx dy _ Q S hx hy e k)
  · exact .inr (hh B F ρ σ H x y dx dy d Q S hx hy hd k)
end
end DL

/-! The data layer, 13: a def with defaults; + by cases. -/
namespace DL
open PySem PySem.Spec PyProof.Rows L2
section
variable {P : Program} {w : World} {K : PySem.W.Frag} {mg : Str → Option Value} {base : Heap}
theorem fn_makeD {x qual : Str} {st : Stmt} {f : Addr} {fd : FuncData} {N ps : List Str} {k : Nat} {fb : EnvD → RS} {dvs : List V} {kws : List (Str × V)} (F : FunD K x qual (defArgs st) (defBody st) (defScope st) dvs kws f fd) (S : FnScope N ps (defScope st)) (hN : ps.length ≤ N.length)
    (body : ∀ (cdv : Value) (A : Around) (outer : List Env) (s : Shared) (H : Hp) (E : XK), Room k (cxOf (L2.CX P w) P w K mg base N qual (defScope st) f cdv A outer s H E).A → Takes (cxOf (L2.CX P w) P w K mg base N qual (defScope st) f cdv A outer s H E) (fun cls d _ H => E cls d H) →
      DSs (cxOf (L2.CX P w) P w K mg base N qual (defScope st) f cdv A outer s H E) (fun cls d _ H => E cls d H) (defBody st) fb) :
    FnOk P w K mg base (L2.CX P w) (k + 1) f fd ps (spD K mg ps.length (runFn N.length ps.length fb)) := by
  refine F.ok S (fun vs H Q E h => ?_) (fun cdv A outer s H vs Q E hr h => ?_)
  · obtain ⟨_, _, hl, _⟩ := h
    exact hl
  · obtain ⟨t, h1, h2⟩ := (body cdv A outer s H E hr (takes_of rfl rfl rfl rfl)).ex
    exact ⟨t, h1, fn_snd h hN h2 fun _ _ _ _ z => z⟩
theorem Cal.all {f : Addr} {k ar : Nat} {m : Mir} {fd : FuncData} {ps : List Str} (F : FnOk P w K mg base (L2.CX P w) k f fd ps (spD K mg ar m)) (b : Binds K fd ps []) : Cal P w K mg base f k ar m [] := ⟨fd, ps, [], [], F, b, .nil, fun _ => .nil⟩
end
section
variable {X : Cx} {W : WX}
def plusD : D → D → Option D := orOp addD (fzOp catD)
theorem de_plus {a b : Expr} {pa pb : EnvD → Rs PD} {pos : Pos} (ha : OE X W a pa) (hb : OE X W b pb) : DE X W (.BinOp a .Add b pos) (eOp2 plusD pa pb) := de_bin (op_addA.or op_cat) (o2_or o2_add (o2_fz o2_cat)) ha hb
end
end DL

/-! The data layer, 14: what the top has written; the end. -/
namespace DL
open PySem PySem.Spec PyProof.Rows L2
/-- a def of the module -/
structure DatG (K : PySem.W.Frag) (x : Str) (st : Stmt) : Prop where mk ::
  ex : ∃ f fd, PySem.W.nsIn K mainGlobals x = some (some (.ref f)) ∧ Fun K x x st f fd
theorem datG_mk {K : PySem.W.Frag} {x : Str} {st : Stmt} {f : Addr} {oc : Value} {od an : Option Addr} {osl : Array (Option Value)} {kV doc pm cdv ct : Value} (a : PySem.W.nsIn K mainGlobals x = some (some (.ref f))) (l : K.lookup f = some ⟨oc, od, .func (PySem.W.fnOf x x (defArgs st) (defBody st) (defScope st) .none kV doc pm an cdv ct), osl⟩)
    (c : PySem.W.codeIn K cdv x = true) (k : PySem.W.keepIn K (.ref f) = true) : DatG K x st := ⟨f, _, a, fun_mk l c k⟩
/-- a method of the class at C -/
structure DatM (K : PySem.W.Frag) (C : Addr) (m qual : Str) (st : Stmt) : Prop where mk ::
  ex : ∃ f fd, PySem.W.findIn K (.ref C) m = some (some (.ref f)) ∧ PySem.W.isFn K (.ref f) = true ∧ Fun K m qual st f fd
theorem datM_mk {K : PySem.W.Frag} {C : Addr} {m qual : Str} {st : Stmt} {f : Addr} {oc : Value} {od an : Option Addr} {osl : Array (Option Value)} {kV doc pm cdv ct : Value} (a : PySem.W.findIn K (.ref C) m = some (some (.ref f))) (i : PySem.W.isFn K (.ref f) = true) (l : K.lookup f = some ⟨oc, od, .func (PySem.W.fnOf m qual (defArgs st) (defBody st) (defScope st) .none kV doc pm an cdv ct), osl⟩)
    (c : PySem.W.codeIn K cdv qual = true) (k : PySem.W.keepIn K (.ref f) = true) : DatM K C m qual st := ⟨f, _, a, i, fun_mk l c k⟩
/-- .. with defaults -/
structure DatMD (K : PySem.W.Frag) (C : Addr) (m qual : Str) (st : Stmt) (dvs : List V) : Prop where mk ::
  ex : ∃ f fd, PySem.W.findIn K (.ref C) m = some (some (.ref f)) ∧ PySem.W.isFn K (.ref f) = true ∧ FunD K m qual (defArgs st) (defBody st) (defScope st) dvs [] f fd
theorem datMD_mk {K : PySem.W.Frag} {C : Addr} {m qual : Str} {st : Stmt} {f T : Addr} {oc tc : Value} {od an td : Option Addr} {osl tsl : Array (Option Value)} {kV doc pm cdv ct : Value} {its : List Value} {n : Nat} {dvs : List V} (a : PySem.W.findIn K (.ref C) m = some (some (.ref f))) (i : PySem.W.isFn K (.ref f) = true)
    (l : K.lookup f = some ⟨oc, od, .func (PySem.W.fnOf m qual (defArgs st) (defBody st) (defScope st) (.ref T) kV doc pm an cdv ct), osl⟩)
    (c : PySem.W.codeIn K cdv qual = true) (k : PySem.W.keepIn K (.ref f) = true) (t : K.lookup T = some ⟨tc, td, .seq its.toArray n, tsl⟩) (hv : Vals dvs its) (hne : dvs ≠ []) : DatMD K C m qual st dvs :=
  ⟨f, _, a, i, ⟨⟨oc, od, _, kV, doc, pm, an, cdv, ct, osl, rfl, l, c, .inr ⟨hne, T, _, its, n, rfl, t, rfl, hv⟩, .inl rfl⟩, k⟩⟩
structure DatGD (K : PySem.W.Frag) (x : Str) (st : Stmt) (dvs : List V) : Prop where mk ::
  ex : ∃ f fd, PySem.W.nsIn K mainGlobals x = some (some (.ref f)) ∧ FunD K x x (defArgs st) (defBody st) (defScope st) dvs [] f fd
theorem datGD_mk {K : PySem.W.Frag} {x : Str} {st : Stmt} {f T : Addr} {oc tc : Value} {od an td : Option Addr} {osl tsl : Array (Option Value)} {kV doc pm cdv ct : Value} {its : List Value} {n : Nat} {dvs : List V} (a : PySem.W.nsIn K mainGlobals x = some (some (.ref f)))
    (l : K.lookup f = some ⟨oc, od, .func (PySem.W.fnOf x x (defArgs st) (defBody st) (defScope st) (.ref T) kV doc pm an cdv ct), osl⟩)
    (c : PySem.W.codeIn K cdv x = true) (k : PySem.W.keepIn K (.ref f) = true) (t : K.lookup T = some ⟨tc, td, .seq its.toArray n, tsl⟩) (hv : Vals dvs its) (hne : dvs ≠ []) : DatGD K x st dvs :=
  ⟨f, _, a, ⟨⟨oc, od, _, kV, doc, pm, an, cdv, ct, osl, rfl, l, c, .inr ⟨hne, T, _, its, n, rfl, t, rfl, hv⟩, .inl rfl⟩, k⟩⟩
section
variable {P : Program} {w : World} {K : PySem.W.Frag} {mg : Str → Option Value} {base h : Heap}
theorem fnd_of {x : Str} {st : Stmt} {k ar : Nat} {m : Mir} {ps : List Str} (X : K.In h) (G : h.Ns mainGlobals mg) (d : DatG K x st)
    (hb : ∀ (kV doc pm : Value) (an : Option Addr) (cdv ct : Value) (us : List Value), us.length = ps.length → bindArgs (PySem.W.fnOf x x (defArgs st) (defBody st) (defScope st) .none kV doc pm an cdv ct) ⟨us, []⟩ = pure (ps.zip us))
    (ok : ∀ {f : Addr} {fd : FuncData}, Fun K x x st f fd → FnOk P w K mg base (L2.CX P w) k f fd ps (spD K mg ar m)) : Fnd P w K mg base x k ar m [] :=
  let ⟨f, _, a, F⟩ := d.ex; ⟨f, PySem.W.mg_of X G a, F.kp, Cal.all (ok F) (F.binds hb)⟩
theorem mtd_of {C : Str} {c : Addr} {x qual : Str} {st : Stmt} {k ar : Nat} {m : Mir} {ps : List Str} (hC : mg C = some (.ref c)) (cl : Cls K c) (d : DatM K c x qual st)
    (hb : ∀ (kV doc pm : Value) (an : Option Addr) (cdv ct : Value) (us : List Value), us.length = ps.length → bindArgs (PySem.W.fnOf x qual (defArgs st) (defBody st) (defScope st) .none kV doc pm an cdv ct) ⟨us, []⟩ = pure (ps.zip us))
    (ok : ∀ {f : Addr} {fd : FuncData}, Fun K x qual st f fd → FnOk P w K mg base (L2.CX P w) k f fd ps (spD K mg ar m)) : Mtd P w K mg base C x k ar m [] :=
  let ⟨f, _, a, i, F⟩ := d.ex; ⟨c, f, hC, cl, ⟨a, i, F.kp⟩, Cal.all (ok F) (F.binds hb)⟩
theorem mkd_of {C : Str} {c : Addr} {qual : Str} {st : Stmt} {k ar : Nat} {m : Mir} {ps : List Str} (hC : mg C = some (.ref c)) (mk : PySem.W.makesIn K c = true) (kc : PySem.W.keepIn K (.ref c) = true) (d : DatM K c "__init__" qual st)
    (hb : ∀ (kV doc pm : Value) (an : Option Addr) (cdv ct : Value) (us : List Value), us.length = ps.length → bindArgs (PySem.W.fnOf "__init__" qual (defArgs st) (defBody st) (defScope st) .none kV doc pm an cdv ct) ⟨us, []⟩ = pure (ps.zip us))
    (ok : ∀ {f : Addr} {fd : FuncData}, Fun K "__init__" qual st f fd → FnOk P w K mg base (L2.CX P w) k f fd ps (spD K mg ar m)) : Mkd P w K mg base C k ar m [] :=
  let ⟨f, _, a, i, F⟩ := d.ex; ⟨c, f, hC, ⟨mk, a, i, kc⟩, Cal.all (ok F) (F.binds hb)⟩
/-- .. with defaults: all are written, or the last miss ones fill up -/
theorem mkd_ofD {C : Str} {c : Addr} {qual : Str} {st : Stmt} {k ar : Nat} {m : Mir} {ps : List Str} {dvs : List V} {dds : List D} (n j : Nat) (hC : mg C = some (.ref c)) (mk : PySem.W.makesIn K c = true) (kc : PySem.W.keepIn K (.ref c) = true) (d : DatMD K c "__init__" qual st dvs) (hd : dvs ≠ []) (hn : n + (dvs.length - j) = ps.length)
    (hb : ∀ (T : Addr) (kV doc pm : Value) (an : Option Addr) (cdv ct : Value) (us its : List Value), us.length = n → its.length = dvs.length →
      ∃ k, bindArgs (PySem.W.fnOf "__init__" qual (defArgs st) (defBody st) (defScope st) (.ref T) kV doc pm an cdv ct) ⟨us, []⟩ = seqItems? (.ref T) >>= k ∧ k (some its.toArray) = pure (ps.zip (us ++ its.drop j)))
    (hr : ∀ F, Reps K mg F (dvs.drop j) dds)
    (ok : ∀ {f : Addr} {fd : FuncData}, FunD K "__init__" qual (defArgs st) (defBody st) (defScope st) dvs [] f fd → FnOk P w K mg base (L2.CX P w) k f fd ps (spD K mg ar m)) : Mkd P w K mg base C k ar m dds := by
  obtain ⟨f, fd, a, i, F⟩ := d.ex
  obtain ⟨ds, v, b⟩ := F.binds1 n j hd hn hb
  exact ⟨c, f, hC, ⟨mk, a, i, kc⟩, fd, ps, ds, _, ok F, b, v, hr⟩
theorem cmp_of {C : Str} {c : Addr} {op : CmpOp} {x qual : Str} {st : Stmt} {k : Nat} {m : Mir} {ps : List Str} (hC : mg C = some (.ref c)) (d : DatM K c x qual st) (hx : (cmpInfo op).2.1 = x) (hop : compareOp op = richCompare op)
    (hb : ∀ (kV doc pm : Value) (an : Option Addr) (cdv ct : Value) (us : List Value), us.length = ps.length → bindArgs (PySem.W.fnOf x qual (defArgs st) (defBody st) (defScope st) .none kV doc pm an cdv ct) ⟨us, []⟩ = pure (ps.zip us))
    (ok : ∀ {f : Addr} {fd : FuncData}, Fun K x qual st f fd → FnOk P w K mg base (L2.CX P w) k f fd ps (spD K mg 2 m)) : CmpOwn P w K mg base C op k m :=
  let ⟨f, _, a, i, F⟩ := d.ex; ⟨c, f, hC, by rw [hx]; exact a, i, hop, Cal.all (ok F) (F.binds hb)⟩
theorem bin_of {C : Str} {c : Addr} {op : Operator} {x qual : Str} {st : Stmt} {k : Nat} {m : Mir} {ps : List Str} (hC : mg C = some (.ref c)) (d : DatM K c x qual st) (hx : PySem.dunder op.info.2 = x) (sf : PySem.W.selfFirst K c = true)
    (hb : ∀ (kV doc pm : Value) (an : Option Addr) (cdv ct : Value) (us : List Value), us.length = ps.length → bindArgs (PySem.W.fnOf x qual (defArgs st) (defBody st) (defScope st) .none kV doc pm an cdv ct) ⟨us, []⟩ = pure (ps.zip us))
    (ok : ∀ {f : Addr} {fd : FuncData}, Fun K x qual st f fd → FnOk P w K mg base (L2.CX P w) k f fd ps (spD K mg 2 m)) : BinOwn P w K mg base C op k m :=
  let ⟨f, _, a, i, F⟩ := d.ex; ⟨c, f, hC, by rw [hx]; exact a, sf, i, Cal.all (ok F) (F.binds hb)⟩
end
/-- the law's own promise -/
def spLaw (K : PySem.W.Frag) : Sp := fun vs H Q _ => ∃ (a : Addr) (ns : List Int), vs = [.ref a] ∧ SqL K H a (ns.map V.int) ∧ ns.length ≤ 63 ∧ ∀ H', Q (.bl true) H'
/-- the law's mirror says True of each script -/
def Says (m : Mir) : Prop := ∀ ns : List Int, ns.length ≤ 63 → ∃ outs, m [.t (.seq (ns.map D.int))] = .ok (.bl true) outs
theorem law_ok {P : Program} {w : World} {K : PySem.W.Frag} {mg : Str → Option Value} {base : Heap} {k : Nat} {f : Addr} {fd : FuncData} {ps : List Str} {m : Mir} (F : FnOk P w K mg base (L2.CX P w) k f fd ps (spD K mg 1 m)) (h : Says m) : FnOk P w K mg base (L2.CX P w) k f fd ps (spLaw K) :=
  F.imp fun vs H Q E ⟨a, ns, hv, hs, hl, k⟩ => by
    subst hv
    obtain ⟨outs, ho⟩ := h ns hl
    refine ⟨H, [.t (.seq (ns.map D.int))], rfl, ExD.refl H, ⟨.seq hs (Reps.ints ns), trivial⟩, by simp [ioAddr], ?_⟩
    rw [ho]
    intro v F' H' _ r
    cases r
    exact k H'
theorem cx_end {P : Program} {w : World} (H : Hp) (s : Shared) (e : Value) (s' : Shared) (z : L2.CX P w [] H s (fun _ _ _ => False) e s') : False := by
  obtain ⟨_, _, _, _, _, _, _, _, _, _, _, _, z⟩ := z
  exact z.elim
end DL

/-! The data layer, 15: mirrors are worked out (for simp). -/
namespace DL
open PySem PySem.Spec PyProof.Rows L2
section
variable {ρ ρ' : EnvD} {i n k ar : Nat} {d x y : D} {co : CO} {ds es : List D} {b : Bool} {g : D → Option D} {g2 h2 : D → D → Option D} {gn : D → Option CO} {gn2 : D → D → Option CO} {a a2 : EnvD → Rs PD} {f f2 : EnvD → Rs D} {fn : EnvD → Rs CO} {c c2 : EnvD → Rs Bool} {s s2 : EnvD → RS} {p q : PD} {ps : List PD} {ss os : List SV} {sv : SV} {m : Mir} {dds : List D}
/-! looks at slots -/
def viewO : Option SV → Option D
  | some (.t d) => some d
  | some (.c co) => some co.d
  | some (.p co) => some co.d
  | _ => none
@[simp] theorem viewO_t : viewO (some (.t d)) = some d := rfl
@[simp] theorem viewO_c : viewO (some (.c co)) = some co.d := rfl
@[simp] theorem viewO_p : viewO (some (.p co)) = some co.d := rfl
@[simp] theorem viewD_ev : viewD ρ i = viewO ρ[i]? := by
  unfold viewD viewO
  cases ρ[i]? with
  | none => rfl
  | some s => cases s <;> rfl
def varO : Option SV → Nat → EnvD → Rs D
  | some (.t d), _, ρ => .ok d ρ
  | some (.c co), i, ρ => .ok co.d (ρ.set i (.t co.d))
  | _, _, _ => .bad
@[simp] theorem varO_t : varO (some (.t d)) i ρ = .ok d ρ := rfl
@[simp] theorem varO_c : varO (some (.c co)) i ρ = .ok co.d (ρ.set i (.t co.d)) := rfl
@[simp] theorem eVar_ev : eVar i ρ = varO ρ[i]? i ρ := by
  unfold eVar varO
  cases ρ[i]? with
  | none => rfl
  | some s => cases s <;> rfl
def isPO : Option SV → Bool
  | some (.p _) => true
  | _ => false
@[simp] theorem isPO_no : isPO (some .no) = false := rfl
@[simp] theorem isPO_t : isPO (some (.t d)) = false := rfl
@[simp] theorem isPO_c : isPO (some (.c co)) = false := rfl
@[simp] theorem isPO_p : isPO (some (.p co)) = true := rfl
@[simp] theorem isP_ev : isP ρ i = isPO ρ[i]? := by
  unfold isP isPO
  cases ρ[i]? with
  | none => rfl
  | some s => cases s <;> rfl
def lstO : Option SV → Option (SV × List D)
  | some (.c (.lst l)) => some (.c (.lst l), l)
  | some (.p (.lst l)) => some (.p (.lst l), l)
  | _ => none
@[simp] theorem lstO_c : lstO (some (.c (.lst ds))) = some (.c (.lst ds), ds) := rfl
@[simp] theorem lstO_p : lstO (some (.p (.lst ds))) = some (.p (.lst ds), ds) := rfl
@[simp] theorem lstAt_ev : lstAt ρ i = lstO ρ[i]? := by
  unfold lstAt lstO
  cases ρ[i]? with
  | none => rfl
  | some s => cases s with
    | c co => cases co <;> rfl
    | p co => cases co <;> rfl
    | _ => rfl
def insO : Option SV → Option (SV × Str × List (Str × D))
  | some (.c (.ins nm fs)) => some (.c (.ins nm fs), nm, fs)
  | some (.p (.ins nm fs)) => some (.p (.ins nm fs), nm, fs)
  | _ => none
@[simp] theorem insO_c {nm : Str} {fs : List (Str × D)} : insO (some (.c (.ins nm fs))) = some (.c (.ins nm fs), nm, fs) := rfl
@[simp] theorem insO_p {nm : Str} {fs : List (Str × D)} : insO (some (.p (.ins nm fs))) = some (.p (.ins nm fs), nm, fs) := rfl
@[simp] theorem insAt_ev : insAt ρ i = insO ρ[i]? := by
  unfold insAt insO
  cases ρ[i]? with
  | none => rfl
  | some s => cases s with
    | c co => cases co <;> rfl
    | p co => cases co <;> rfl
    | _ => rfl
@[simp] theorem reCell_c {o : CO} : reCell (.c o) co = .c co := rfl
@[simp] theorem reCell_p {o : CO} : reCell (.p o) co = .p co := rfl
@[simp] theorem reCell_t : reCell (.t d) co = .t d := rfl
@[simp] theorem cod_lst : (CO.lst ds).d = .lst ds := rfl
@[simp] theorem cod_tup : (CO.tup ds).d = .tup ds := rfl
@[simp] theorem cod_ins {nm : Str} {fs : List (Str × D)} : (CO.ins nm fs).d = .ins nm fs := rfl
@[simp] theorem pget_d : (PD.d x).get ρ = some x := rfl
@[simp] theorem pget_v : (PD.v i).get ρ = viewO ρ[i]? := viewD_ev

/-! expressions -/
@[simp] theorem eC_ev : eC d ρ = .ok d ρ := rfl
def kPE : D → EnvD → Rs PD := fun d ρ => .ok (.d d) ρ
@[simp] theorem kPE_ev : kPE d ρ = .ok (.d d) ρ := rfl
@[simp] theorem pE_ev : pE f ρ = (f ρ).bind kPE := rfl
def pvO : Option D → Nat → EnvD → Rs PD
  | some _, i, ρ => .ok (.v i) ρ
  | none, _, _ => .bad
@[simp] theorem pvO_some : pvO (some d) i ρ = .ok (.v i) ρ := rfl
@[simp] theorem pV_ev : pV i ρ = pvO (viewO ρ[i]?) i ρ := by
  unfold pV
  rw [viewD_ev]
  cases viewO ρ[i]? <;> rfl
def kFz : CO → EnvD → Rs D := fun co ρ => .ok co.d ρ
@[simp] theorem kFz_ev : kFz co ρ = .ok co.d ρ := rfl
@[simp] theorem fz_ev : fz fn ρ = (fn ρ).bind kFz := rfl
def kOp1 (g : D → Option D) : PD → EnvD → Rs D := fun p ρ => optR ((p.get ρ).bind g) ρ
@[simp] theorem kOp1_ev : kOp1 g p ρ = optR ((p.get ρ).bind g) ρ := rfl
@[simp] theorem eOp1_ev : eOp1 g a ρ = (a ρ).bind (kOp1 g) := rfl
def kOp2' (g : D → D → Option D) (p : PD) : PD → EnvD → Rs D := fun q ρ => optR (((p.get ρ).bind fun x => (q.get ρ).bind fun y => g x y)) ρ
def kOp2 (g : D → D → Option D) (b : EnvD → Rs PD) : PD → EnvD → Rs D := fun p ρ => (b ρ).bind (kOp2' g p)
@[simp] theorem kOp2_ev : kOp2 g2 a p ρ = (a ρ).bind (kOp2' g2 p) := rfl
def op2O (g : D → D → Option D) : Option D → Option D → Option D
  | some x, some y => g x y
  | _, _ => none
@[simp] theorem op2O_some : op2O g2 (some x) (some y) = g2 x y := rfl
@[simp] theorem kOp2'_ev : kOp2' g2 p q ρ = optR (op2O g2 (p.get ρ) (q.get ρ)) ρ := by
  unfold kOp2' op2O
  cases p.get ρ <;> cases q.get ρ <;> rfl
@[simp] theorem eOp2_ev : eOp2 g2 a a2 ρ = (a ρ).bind (kOp2 g2 a2) := rfl
def kNp1 (g : D → Option CO) : PD → EnvD → Rs CO := fun p ρ => optR ((p.get ρ).bind g) ρ
@[simp] theorem kNp1_ev : kNp1 gn p ρ = optR ((p.get ρ).bind gn) ρ := rfl
@[simp] theorem nOp1_ev : nOp1 gn a ρ = (a ρ).bind (kNp1 gn) := rfl
def nop2O (g : D → D → Option CO) : Option D → Option D → Option CO
  | some x, some y => g x y
  | _, _ => none
@[simp] theorem nop2O_some : nop2O gn2 (some x) (some y) = gn2 x y := rfl
def kNp2' (g : D → D → Option CO) (p : PD) : PD → EnvD → Rs CO := fun q ρ => optR (nop2O g (p.get ρ) (q.get ρ)) ρ
def kNp2 (g : D → D → Option CO) (b : EnvD → Rs PD) : PD → EnvD → Rs CO := fun p ρ => (b ρ).bind (kNp2' g p)
@[simp] theorem kNp2_ev : kNp2 gn2 a p ρ = (a ρ).bind (kNp2' gn2 p) := rfl
@[simp] theorem kNp2'_ev : kNp2' gn2 p q ρ = optR (nop2O gn2 (p.get ρ) (q.get ρ)) ρ := rfl
@[simp] theorem nOp2_ev : nOp2 gn2 a a2 ρ = (a ρ).bind (kNp2 gn2 a2) := by
  unfold nOp2 kNp2 kNp2' nop2O
  congr 1
  funext p ρ1
  congr 1
  funext q ρ2
  cases p.get ρ2 <;> cases q.get ρ2 <;> rfl
def kTB : D → EnvD → Rs Bool := fun d ρ => match d with
  | .bl b => .ok b ρ
  | _ => .bad
@[simp] theorem kTB_ev : kTB (.bl b) ρ = .ok b ρ := rfl
@[simp] theorem tB_ev : tB f ρ = (f ρ).bind kTB := rfl
def kTr : PD → EnvD → Rs Bool := fun q ρ => optR ((q.get ρ).bind truD) ρ
@[simp] theorem kTr_ev : kTr p ρ = optR ((p.get ρ).bind truD) ρ := rfl
@[simp] theorem tTr_ev : tTr a ρ = (a ρ).bind kTr := rfl
def kIf {α : Type} (u v : EnvD → Rs α) : Bool → EnvD → Rs α := fun k ρ => if k = true then u ρ else v ρ
@[simp] theorem kIf_true {α : Type} {u v : EnvD → Rs α} : kIf u v true ρ = u ρ := rfl
@[simp] theorem kIf_false {α : Type} {u v : EnvD → Rs α} : kIf u v false ρ = v ρ := rfl
theorem kIf_b {α : Type} {u v : EnvD → Rs α} : kIf u v b ρ = if b = true then u ρ else v ρ := rfl
@[simp] theorem eIf_ev {α : Type} {u v : EnvD → Rs α} : eIf c u v ρ = (c ρ).bind (kIf u v) := rfl
def okB (b : Bool) : EnvD → Rs Bool := fun ρ => .ok b ρ
@[simp] theorem okB_ev : okB b ρ = .ok b ρ := rfl
@[simp] theorem wAnd_ev : wAnd c c2 ρ = (c ρ).bind (kIf c2 (okB false)) := rfl
@[simp] theorem wOr_ev : wOr c c2 ρ = (c ρ).bind (kIf (okB true) c2) := rfl
def kNot : Bool → EnvD → Rs Bool := fun k ρ => .ok (!k) ρ
@[simp] theorem kNot_ev : kNot b ρ = .ok (!b) ρ := rfl
@[simp] theorem wNot_ev : wNot c ρ = (c ρ).bind kNot := rfl
def kAnd' (d : D) (b : EnvD → Rs D) : Bool → EnvD → Rs D := fun k ρ => if k = true then b ρ else .ok d ρ
def kAnd (b : EnvD → Rs D) : D → EnvD → Rs D := fun d ρ => (optR (truD d) ρ).bind (kAnd' d b)
@[simp] theorem kAnd'_true : kAnd' d f true ρ = f ρ := rfl
@[simp] theorem kAnd'_false : kAnd' d f false ρ = .ok d ρ := rfl
@[simp] theorem kAnd_ev : kAnd f d ρ = (optR (truD d) ρ).bind (kAnd' d f) := rfl
@[simp] theorem eAnd_ev : eAnd f f2 ρ = (f ρ).bind (kAnd f2) := rfl
def kOr (b : EnvD → Rs D) : D → EnvD → Rs D := fun d ρ => (optR (truD d) ρ).bind (kIf (eC d) b)
@[simp] theorem kOr_ev : kOr f d ρ = (optR (truD d) ρ).bind (kIf (eC d) f) := rfl
@[simp] theorem eOr_ev : eOr f f2 ρ = (f ρ).bind (kOr f2) := rfl
@[simp] theorem tru_non : truD .non = some false := rfl
@[simp] theorem tru_bl : truD (.bl b) = some b := rfl
@[simp] theorem tru_int {z : Int} : truD (.int z) = some (z != 0) := rfl
@[simp] theorem tru_lst : truD (.lst ds) = some (!ds.isEmpty) := rfl
@[simp] theorem tru_tup : truD (.tup ds) = some (!ds.isEmpty) := rfl
@[simp] theorem notD_ev : notD d = (truD d).map fun k => .bl (!k) := rfl
def kCh'' (g' : D → D → Option D) (q : PD) : PD → EnvD → Rs D := fun t ρ => optR (op2O g' (q.get ρ) (t.get ρ)) ρ
def kCh' (g' : D → D → Option D) (q : PD) (c : EnvD → Rs PD) : D → EnvD → Rs D := fun z ρ => match z with
  | .bl true => (c ρ).bind (kCh'' g' q)
  | .bl false => .ok (.bl false) ρ
  | _ => .bad
def kCh (g g' : D → D → Option D) (p : PD) (c : EnvD → Rs PD) : PD → EnvD → Rs D := fun q ρ => (optR (op2O g (p.get ρ) (q.get ρ)) ρ).bind (kCh' g' q c)
def kCh0 (g g' : D → D → Option D) (b c : EnvD → Rs PD) : PD → EnvD → Rs D := fun p ρ => (b ρ).bind (kCh g g' p c)
@[simp] theorem kCh0_ev {cc : EnvD → Rs PD} : kCh0 g2 h2 a cc p ρ = (a ρ).bind (kCh g2 h2 p cc) := rfl
@[simp] theorem kCh_ev {cc : EnvD → Rs PD} : kCh g2 h2 p cc q ρ = (optR (op2O g2 (p.get ρ) (q.get ρ)) ρ).bind (kCh' h2 q cc) := rfl
@[simp] theorem kCh'_true {cc : EnvD → Rs PD} : kCh' h2 q cc (.bl true) ρ = (cc ρ).bind (kCh'' h2 q) := rfl
@[simp] theorem kCh'_false {cc : EnvD → Rs PD} : kCh' h2 q cc (.bl false) ρ = .ok (.bl false) ρ := rfl
theorem kCh'_b {cc : EnvD → Rs PD} : kCh' h2 q cc (.bl b) ρ = if b = true then (cc ρ).bind (kCh'' h2 q) else .ok (.bl false) ρ := by cases b <;> rfl
@[simp] theorem kCh''_ev : kCh'' h2 q p ρ = optR (op2O h2 (q.get ρ) (p.get ρ)) ρ := rfl
@[simp] theorem eChain_ev {cc : EnvD → Rs PD} : eChain g2 h2 a a2 cc ρ = (a ρ).bind (kCh0 g2 h2 a2 cc) := by
  unfold eChain kCh0 kCh
  congr 1
  funext p ρ1
  congr 1
  funext q ρ2
  have : ((p.get ρ2).bind fun x => (q.get ρ2).bind fun y => g2 x y) = op2O g2 (p.get ρ2) (q.get ρ2) := by
    unfold op2O
    cases p.get ρ2 <;> cases q.get ρ2 <;> rfl
  rw [this]
  congr 1
  funext z ρ3
  unfold kCh'
  cases z with
  | bl b =>
    cases b with
    | true =>
      show (cc ρ3).bind _ = (cc ρ3).bind _
      congr 1
      funext t ρ4
      unfold kCh'' op2O
      cases q.get ρ4 <;> cases t.get ρ4 <;> rfl
    | false => rfl
  | _ => rfl
/-! several -/
@[simp] theorem aNil_ev : aNil ρ = .ok [] ρ := rfl
@[simp] theorem oNil_ev : oNil ρ = .ok [] ρ := rfl
def kA' (d : D) : List D → EnvD → Rs (List D) := fun ds ρ => .ok (d :: ds) ρ
def kA (g : EnvD → Rs (List D)) : D → EnvD → Rs (List D) := fun d ρ => (g ρ).bind (kA' d)
@[simp] theorem kA'_ev : kA' d ds ρ = .ok (d :: ds) ρ := rfl
@[simp] theorem kA_ev {g : EnvD → Rs (List D)} : kA g d ρ = (g ρ).bind (kA' d) := rfl
@[simp] theorem aCons_ev {g : EnvD → Rs (List D)} : aCons f g ρ = (f ρ).bind (kA g) := rfl
def kO' (d : PD) : List PD → EnvD → Rs (List PD) := fun ds ρ => .ok (d :: ds) ρ
def kO (g : EnvD → Rs (List PD)) : PD → EnvD → Rs (List PD) := fun d ρ => (g ρ).bind (kO' d)
@[simp] theorem kO'_ev : kO' p ps ρ = .ok (p :: ps) ρ := rfl
@[simp] theorem kO_ev {g : EnvD → Rs (List PD)} : kO g p ρ = (g ρ).bind (kO' p) := rfl
@[simp] theorem oCons_ev {g : EnvD → Rs (List PD)} : oCons a g ρ = (a ρ).bind (kO g) := rfl
def kTup : List D → EnvD → Rs CO := fun ds ρ => if ds.length ≤ 10000 then .ok (.tup ds) ρ else .bad
@[simp] theorem kTup_ev : kTup ds ρ = if ds.length ≤ 10000 then .ok (.tup ds) ρ else .bad := rfl
@[simp] theorem nTup_ev {g : EnvD → Rs (List D)} : nTup g ρ = (g ρ).bind kTup := rfl
def kLst : List D → EnvD → Rs CO := fun ds ρ => if ds.length ≤ 10000 then .ok (.lst ds) ρ else .bad
@[simp] theorem kLst_ev : kLst ds ρ = if ds.length ≤ 10000 then .ok (.lst ds) ρ else .bad := rfl
@[simp] theorem nLst_ev {g : EnvD → Rs (List D)} : nLst g ρ = (g ρ).bind kLst := rfl
def kCall (g : List D → Option D) : List PD → EnvD → Rs D := fun q ρ => optR ((getAll ρ q).bind g) ρ
@[simp] theorem kCall_ev {g : List D → Option D} : kCall g ps ρ = optR ((getAll ρ ps).bind g) ρ := rfl
@[simp] theorem eCall_ev {g : List D → Option D} {u : EnvD → Rs (List PD)} : eCall g u ρ = (u ρ).bind (kCall g) := rfl
def kNCall (g : List D → Option CO) : List PD → EnvD → Rs CO := fun q ρ => optR ((getAll ρ q).bind g) ρ
@[simp] theorem kNCall_ev {g : List D → Option CO} : kNCall g ps ρ = optR ((getAll ρ ps).bind g) ρ := rfl
@[simp] theorem nCall_ev {g : List D → Option CO} {u : EnvD → Rs (List PD)} : nCall g u ρ = (u ρ).bind (kNCall g) := rfl
@[simp] theorem getAll_nil : getAll ρ [] = some [] := rfl
def consO : Option D → Option (List D) → Option (List D)
  | some x, some l => some (x :: l)
  | _, _ => none
@[simp] theorem consO_some : consO (some x) (some ds) = some (x :: ds) := rfl
@[simp] theorem getAll_cons : getAll ρ (p :: ps) = consO (p.get ρ) (getAll ρ ps) := by
  show (p.get ρ).bind (fun d => (getAll ρ ps).map fun ds => d :: ds) = _
  unfold consO
  cases p.get ρ <;> cases getAll ρ ps <;> rfl
/-! calls -/
def argO : Option SV → Option SV
  | some (.t d) => some (.t d)
  | some (.c co) => some (.p co)
  | some (.p co) => some (.p co)
  | _ => none
@[simp] theorem argO_t : argO (some (.t d)) = some (.t d) := rfl
@[simp] theorem argO_c : argO (some (.c co)) = some (.p co) := rfl
@[simp] theorem argO_p : argO (some (.p co)) = some (.p co) := rfl
def consS : Option SV → Option (List SV) → Option (List SV)
  | some x, some l => some (x :: l)
  | _, _ => none
@[simp] theorem consS_some : consS (some sv) (some ss) = some (sv :: ss) := rfl
@[simp] theorem argsD_nil : argsD ρ [] = some [] := rfl
@[simp] theorem argsD_d : argsD ρ (.d x :: ps) = consS (some (.t x)) (argsD ρ ps) := by
  show (match some (SV.t x) with | none => none | some s => match argsD ρ ps with | none => none | some ss => some (s :: ss)) = _
  unfold consS
  cases argsD ρ ps <;> rfl
theorem arg_argO : (PD.v i).arg ρ = argO ρ[i]? := by
  simp only [PD.arg]
  unfold argO
  cases ρ[i]? with
  | none => rfl
  | some s => cases s <;> rfl
@[simp] theorem argsD_v : argsD ρ (.v i :: ps) = consS (argO ρ[i]?) (argsD ρ ps) := by
  have : argsD ρ (.v i :: ps) = (match (PD.v i).arg ρ with | none => none | some s => match argsD ρ ps with | none => none | some ss => some (s :: ss)) := rfl
  rw [this, arg_argO]
  unfold consS
  cases argO ρ[i]? <;> cases argsD ρ ps <;> rfl
def ioO : Option SV → Nat → List Nat
  | some (.c _), i => [i]
  | some (.p _), i => [i]
  | _, _ => []
@[simp] theorem ioO_t : ioO (some (.t d)) i = [] := rfl
@[simp] theorem ioO_c : ioO (some (.c co)) i = [i] := rfl
@[simp] theorem ioO_p : ioO (some (.p co)) i = [i] := rfl
@[simp] theorem ioSlots_nil : ioSlots ρ [] = [] := rfl
@[simp] theorem ioSlots_d : ioSlots ρ (.d x :: ps) = ioSlots ρ ps := rfl
@[simp] theorem ioSlots_v : ioSlots ρ (.v i :: ps) = ioO ρ[i]? i ++ ioSlots ρ ps := by
  have : ioSlots ρ (.v i :: ps) = (PD.v i).io ρ ++ ioSlots ρ ps := rfl
  rw [this]
  congr 1
  simp only [PD.io]
  unfold ioO
  cases ρ[i]? with
  | none => rfl
  | some s => cases s <;> rfl
@[simp] theorem ioOk_ev : ioOk ρ ps = decide (ioSlots ρ ps).Nodup := rfl
def callO (ar : Nat) (m : Mir) (ok : Bool) : Option (List SV) → RF
  | some svs => if svs.length = ar then (if ok = true then m svs else .bad) else .bad
  | none => .bad
@[simp] theorem callO_some {ok : Bool} : callO ar m ok (some ss) = if ss.length = ar then (if ok = true then m ss else .bad) else .bad := rfl
@[simp] theorem callRF_ev : callRF ar m ρ ps = callO ar m (ioOk ρ ps) (argsD ρ ps) := by
  unfold callRF callO
  cases argsD ρ ps <;> rfl
@[simp] theorem toD_ok {outs : List SV} : (RF.ok d outs).toD ρ ps = .ok d (putOuts ρ ps outs) := rfl
@[simp] theorem toD_okN {outs : List SV} : (RF.okN co outs).toD ρ ps = .ok co.d (putOuts ρ ps outs) := rfl
@[simp] theorem toN_okN {outs : List SV} : (RF.okN co outs).toN ρ ps = .ok co (putOuts ρ ps outs) := rfl
@[simp] theorem toB_ok {outs : List SV} : (RF.ok d outs).toB ρ = if scalD d = true then .ok d ρ else .bad := rfl
@[simp] theorem scal_non : scalD .non = true := rfl
@[simp] theorem scal_bl : scalD (.bl b) = true := rfl
@[simp] theorem scal_int {z : Int} : scalD (.int z) = true := rfl
def kCallD (ar : Nat) (m : Mir) (dds : List D) : List PD → EnvD → Rs D := fun ps ρ1 => (callRF ar m ρ1 (ps ++ dds.map .d)).toD ρ1 (ps ++ dds.map .d)
@[simp] theorem kCallD_ev : kCallD ar m dds ps ρ = (callRF ar m ρ (ps ++ dds.map .d)).toD ρ (ps ++ dds.map .d) := rfl
@[simp] theorem callD_ev {u : EnvD → Rs (List PD)} : callD ar m dds u ρ = (u ρ).bind (kCallD ar m dds) := rfl
def kCallN (ar : Nat) (m : Mir) (dds : List D) : List PD → EnvD → Rs CO := fun ps ρ1 => (callRF ar m ρ1 (ps ++ dds.map .d)).toN ρ1 (ps ++ dds.map .d)
@[simp] theorem kCallN_ev : kCallN ar m dds ps ρ = (callRF ar m ρ (ps ++ dds.map .d)).toN ρ (ps ++ dds.map .d) := rfl
@[simp] theorem callN_ev {u : EnvD → Rs (List PD)} : callN ar m dds u ρ = (u ρ).bind (kCallN ar m dds) := rfl
def callBO (ar : Nat) (m : Mir) (dds : List D) (ρ : EnvD) : Option (List D) → Rs D
  | some ds => if (ds ++ dds).length = ar then (m ((ds ++ dds).map .t)).toB ρ else .bad
  | none => .bad
@[simp] theorem callBO_some : callBO ar m dds ρ (some ds) = if (ds ++ dds).length = ar then (m ((ds ++ dds).map .t)).toB ρ else .bad := rfl
def kCallB (ar : Nat) (m : Mir) (dds : List D) : List PD → EnvD → Rs D := fun ps ρ1 => callBO ar m dds ρ1 (getAll ρ1 ps)
@[simp] theorem kCallB_ev : kCallB ar m dds ps ρ = callBO ar m dds ρ (getAll ρ ps) := rfl
@[simp] theorem callB_ev {u : EnvD → Rs (List PD)} : callB ar m dds u ρ = (u ρ).bind (kCallB ar m dds) := by
  unfold callB kCallB
  congr 1
  funext ps ρ1
  unfold callBO
  cases getAll ρ1 ps <;> rfl
@[simp] theorem putOuts_nil : putOuts ρ [] os = ρ := by cases os <;> rfl
@[simp] theorem putOuts_no : putOuts ρ ps [] = ρ := by cases ps <;> rfl
@[simp] theorem putOuts_d : putOuts ρ (.d x :: ps) (sv :: os) = putOuts ρ ps os := rfl
theorem putOuts_d' : ∀ {ds : List D} {os : List SV}, putOuts ρ (ds.map .d) os = ρ
  | [], os => by cases os <;> rfl
  | _ :: _, [] => rfl
  | _ :: ds, _ :: os => putOuts_d' (ds := ds) (os := os)
@[simp] theorem putOuts_d1 : putOuts ρ [.d x] os = ρ := putOuts_d' (ds := [x])
@[simp] theorem putOuts_d2 {x1 x2 : D} : putOuts ρ [.d x1, .d x2] os = ρ := putOuts_d' (ds := [x1, x2])
@[simp] theorem putOuts_d3 {x1 x2 x3 : D} : putOuts ρ [.d x1, .d x2, .d x3] os = ρ := putOuts_d' (ds := [x1, x2, x3])
@[simp] theorem putOuts_d4 {x1 x2 x3 x4 : D} : putOuts ρ [.d x1, .d x2, .d x3, .d x4] os = ρ := putOuts_d' (ds := [x1, x2, x3, x4])
@[simp] theorem putOuts_d5 {x1 x2 x3 x4 x5 : D} : putOuts ρ [.d x1, .d x2, .d x3, .d x4, .d x5] os = ρ := putOuts_d' (ds := [x1, x2, x3, x4, x5])
@[simp] theorem putOuts_d6 {x1 x2 x3 x4 x5 x6 : D} : putOuts ρ [.d x1, .d x2, .d x3, .d x4, .d x5, .d x6] os = ρ := putOuts_d' (ds := [x1, x2, x3, x4, x5, x6])
def putO : Option SV → EnvD → Nat → CO → EnvD
  | some s, ρ, i, co => ρ.set i (reCell s co)
  | none, ρ, _, _ => ρ
@[simp] theorem putO_some : putO (some sv) ρ i co = ρ.set i (reCell sv co) := rfl
@[simp] theorem putOuts_v : putOuts ρ (.v i :: ps) (.p co :: os) = putOuts (putO ρ[i]? ρ i co) ps os := by
  have : putOuts ρ (.v i :: ps) (.p co :: os) = putOuts (putOut ρ (.v i) (.p co)) ps os := rfl
  rw [this]
  congr 1
  show (match ρ[i]? with | some s => ρ.set i (reCell s co) | none => ρ) = _
  unfold putO
  cases ρ[i]? <;> rfl
@[simp] theorem putOuts_vt : putOuts ρ (.v i :: ps) (.t d :: os) = putOuts ρ ps os := rfl
/-! methods, classes, own operators -/
def kMeth' {α : Type} (p : PD) (g : List PD → EnvD → Rs α) : List PD → EnvD → Rs α := fun ps ρ => g (p :: ps) ρ
@[simp] theorem kMeth'_ev {α : Type} {g : List PD → EnvD → Rs α} : kMeth' p g ps ρ = g (p :: ps) ρ := rfl
def kMeth {α : Type} (C m' : Str) (fa : EnvD → Rs (List PD)) (g : List PD → EnvD → Rs α) : PD → EnvD → Rs α := fun p ρ => if recvOk C m' (p.get ρ) = true then (fa ρ).bind (kMeth' p g) else .bad
@[simp] theorem kMeth_ev {α : Type} {C m' : Str} {fa : EnvD → Rs (List PD)} {g : List PD → EnvD → Rs α} : kMeth C m' fa g p ρ = if recvOk C m' (p.get ρ) = true then (fa ρ).bind (kMeth' p g) else .bad := rfl
@[simp] theorem methRF_ev {α : Type} {C m' : Str} {fa : EnvD → Rs (List PD)} {g : List PD → EnvD → Rs α} : methRF C m' a fa g ρ = (a ρ).bind (kMeth C m' fa g) := rfl
@[simp] theorem methD_ev {C m' : Str} {fa : EnvD → Rs (List PD)} : methD C m' ar m dds a fa ρ = methRF C m' a fa (kCallD ar m dds) ρ := rfl
@[simp] theorem recvOk_ins {C m' nm : Str} {fs : List (Str × D)} : recvOk C m' (some (.ins nm fs)) = (nm == C && (fs.lookup m').isNone) := rfl
def makeO (C : Str) (ar : Nat) (m : Mir) (ok : Bool) : Option (List SV) → RF
  | some svs => if svs.length + 1 = ar then (if ok = true then m (.p (.ins C []) :: svs) else .bad) else .bad
  | none => .bad
@[simp] theorem makeO_some {C : Str} {ok : Bool} : makeO C ar m ok (some ss) = if ss.length + 1 = ar then (if ok = true then m (.p (.ins C []) :: ss) else .bad) else .bad := rfl
@[simp] theorem makeRF_ev {C : Str} : makeRF C ar m ρ ps = makeO C ar m (ioOk ρ ps) (argsD ρ ps) := by
  unfold makeRF makeO
  cases argsD ρ ps <;> rfl
def kMake (C : Str) (ar : Nat) (m : Mir) (dds : List D) : List PD → EnvD → Rs CO := fun ps ρ1 => (makeRF C ar m ρ1 (ps ++ dds.map .d)).toMk ρ1 (ps ++ dds.map .d)
@[simp] theorem kMake_ev {C : Str} : kMake C ar m dds ps ρ = (makeRF C ar m ρ (ps ++ dds.map .d)).toMk ρ (ps ++ dds.map .d) := rfl
@[simp] theorem makeN_ev {C : Str} {u : EnvD → Rs (List PD)} : makeN C ar m dds u ρ = (u ρ).bind (kMake C ar m dds) := rfl
@[simp] theorem toMk_ok {outs : List SV} : (RF.ok .non (.p co :: outs)).toMk ρ ps = .ok co (putOuts ρ ps outs) := rfl
def kOwn' {α : Type} (C : Str) (p : PD) (g : List PD → EnvD → Rs α) : PD → EnvD → Rs α := fun q ρ => if (isInsD C (p.get ρ) && isInsD C (q.get ρ)) = true then g [p, q] ρ else .bad
def kOwn {α : Type} (C : Str) (fb : EnvD → Rs PD) (g : List PD → EnvD → Rs α) : PD → EnvD → Rs α := fun p ρ => (fb ρ).bind (kOwn' C p g)
@[simp] theorem kOwn'_ev {α : Type} {C : Str} {g : List PD → EnvD → Rs α} : kOwn' C p g q ρ = if (isInsD C (p.get ρ) && isInsD C (q.get ρ)) = true then g [p, q] ρ else .bad := rfl
@[simp] theorem kOwn_ev {α : Type} {C : Str} {g : List PD → EnvD → Rs α} : kOwn C a g p ρ = (a ρ).bind (kOwn' C p g) := rfl
def kOwnD (m : Mir) : List PD → EnvD → Rs D := fun ps ρ => (callRF 2 m ρ ps).toD ρ ps
@[simp] theorem kOwnD_ev : kOwnD m ps ρ = (callRF 2 m ρ ps).toD ρ ps := rfl
@[simp] theorem ownD_ev {C : Str} : ownD C m a a2 ρ = (a ρ).bind (kOwn C a2 (kOwnD m)) := rfl
@[simp] theorem isIns_ev {C nm : Str} {fs : List (Str × D)} : isInsD C (some (.ins nm fs)) = (nm == C) := rfl
/-! statements -/
@[simp] theorem sNx_ev : sNx ρ = .nx ρ := rfl
@[simp] theorem sSeq_ev : sSeq s s2 ρ = (s ρ).bind s2 := rfl
def kRet : D → EnvD → RS := fun d ρ => .rt d ρ
@[simp] theorem kRet_ev : kRet d ρ = .rt d ρ := rfl
@[simp] theorem sRet_ev : sRet f ρ = (f ρ).bindS kRet := rfl
@[simp] theorem sRetN_ev : sRetN ρ = .rt .non ρ := rfl
def kRetO : CO → EnvD → RS := fun d ρ => .rn d ρ
@[simp] theorem kRetO_ev : kRetO co ρ = .rn co ρ := rfl
@[simp] theorem sRetO_ev : sRetO fn ρ = (fn ρ).bindS kRetO := rfl
def retO : Option SV → Nat → EnvD → RS
  | some (.t d), _, ρ => .rt d ρ
  | some (.c co), i, ρ => .rn co (ρ.set i .no)
  | _, _, _ => .bad
@[simp] theorem retO_t : retO (some (.t d)) i ρ = .rt d ρ := rfl
@[simp] theorem retO_c : retO (some (.c co)) i ρ = .rn co (ρ.set i .no) := rfl
@[simp] theorem sRetV_ev : sRetV i ρ = retO ρ[i]? i ρ := by
  unfold sRetV retO
  cases ρ[i]? with
  | none => rfl
  | some s => cases s <;> rfl
def kDrop : D → EnvD → RS := fun _ ρ => .nx ρ
@[simp] theorem kDrop_ev : kDrop d ρ = .nx ρ := rfl
@[simp] theorem sDrop_ev : sDrop f ρ = (f ρ).bindS kDrop := rfl
def kSet (i : Nat) : D → EnvD → RS := fun d ρ => if isP ρ i = true then .bad else .nx (ρ.set i (.t d))
@[simp] theorem kSet_ev : kSet i d ρ = if isP ρ i = true then .bad else .nx (ρ.set i (.t d)) := rfl
@[simp] theorem sSet_ev : sSet i f ρ = (f ρ).bindS (kSet i) := rfl
def kSetN (i : Nat) : CO → EnvD → RS := fun d ρ => if isP ρ i = true then .bad else .nx (ρ.set i (.c d))
@[simp] theorem kSetN_ev : kSetN i co ρ = if isP ρ i = true then .bad else .nx (ρ.set i (.c co)) := rfl
@[simp] theorem sSetN_ev : sSetN i fn ρ = (fn ρ).bindS (kSetN i) := rfl
def kSIf (f g : EnvD → RS) : Bool → EnvD → RS := fun k ρ => if k = true then f ρ else g ρ
@[simp] theorem kSIf_true : kSIf s s2 true ρ = s ρ := rfl
@[simp] theorem kSIf_false : kSIf s s2 false ρ = s2 ρ := rfl
theorem kSIf_b : kSIf s s2 b ρ = if b = true then s ρ else s2 ρ := rfl
@[simp] theorem sIf_ev : sIf c s s2 ρ = (c ρ).bindS (kSIf s s2) := rfl
def kFor (g : D → EnvD → Option EnvD) (body : EnvD → RS) : List D → EnvD → RS := fun ds ρ => forL g body ds ρ
@[simp] theorem kFor_ev {g : D → EnvD → Option EnvD} : kFor g s ds ρ = forL g s ds ρ := rfl
@[simp] theorem sFor_ev {g : D → EnvD → Option EnvD} {u : EnvD → Rs (List D)} : sFor u g s ρ = (u ρ).bindS (kFor g s) := rfl
@[simp] theorem forL_nil {g : D → EnvD → Option EnvD} : forL g s [] ρ = .nx ρ := rfl
def forK (g : D → EnvD → Option EnvD) (body : EnvD → RS) (ds : List D) : RS → RS
  | .nx ρ2 => forL g body ds ρ2
  | .ct ρ2 => forL g body ds ρ2
  | .bk ρ2 => .nx ρ2
  | r => r
@[simp] theorem forK_nx {g : D → EnvD → Option EnvD} : forK g s ds (.nx ρ) = forL g s ds ρ := rfl
@[simp] theorem forK_rt {g : D → EnvD → Option EnvD} : forK g s ds (.rt d ρ) = .rt d ρ := rfl
theorem forL_cons {g : D → EnvD → Option EnvD} (h : g d ρ = some ρ') : forL g s (d :: ds) ρ = forK g s ds (s ρ') := by
  have : forL g s (d :: ds) ρ = (match g d ρ with
    | none => .bad
    | some ρ1 => match s ρ1 with
      | .nx ρ2 => forL g s ds ρ2
      | .ct ρ2 => forL g s ds ρ2
      | .bk ρ2 => .nx ρ2
      | .rt d ρ2 => .rt d ρ2
      | .rn co ρ2 => .rn co ρ2
      | .ex c fs ρ2 => .ex c fs ρ2
      | .bad => .bad) := rfl
  rw [this, h]
  simp only
  cases s ρ' <;> rfl
@[simp] theorem gN_ev : gN i d ρ = if isP ρ i = true then none else some (ρ.set i (.t d)) := rfl
@[simp] theorem gT_ev {h : List D → EnvD → Option EnvD} : gT n h (.tup ds) ρ = if ds.length = n then h ds ρ else none := rfl
@[simp] theorem gsNil_ev : gsNil [] ρ = some ρ := rfl
@[simp] theorem gsCons_ev {g : D → EnvD → Option EnvD} {h : List D → EnvD → Option EnvD} : gsCons g h (d :: ds) ρ = (g d ρ).bind (h ds) := rfl
def asgO : Option EnvD → RS
  | some ρ => .nx ρ
  | none => .bad
@[simp] theorem asgO_some : asgO (some ρ) = .nx ρ := rfl
def kAsg (g : D → EnvD → Option EnvD) : D → EnvD → RS := fun d ρ => asgO (g d ρ)
@[simp] theorem kAsg_ev {g : D → EnvD → Option EnvD} : kAsg g d ρ = asgO (g d ρ) := rfl
@[simp] theorem sAsg_ev {g : D → EnvD → Option EnvD} : sAsg f g ρ = (f ρ).bindS (kAsg g) := by
  unfold sAsg kAsg
  congr 1
def kSl'' (q : PD) (l : Option Int) : Option Int → EnvD → Rs CO := fun h ρ => optR ((q.get ρ).bind fun d => slD d l h) ρ
def kSl' (q : PD) (hi : EnvD → Rs (Option Int)) : Option Int → EnvD → Rs CO := fun l ρ => (hi ρ).bind (kSl'' q l)
def kSl (lo hi : EnvD → Rs (Option Int)) : PD → EnvD → Rs CO := fun q ρ => (lo ρ).bind (kSl' q hi)
@[simp] theorem kSl''_ev {l h : Option Int} : kSl'' q l h ρ = optR ((q.get ρ).bind fun d => slD d l h) ρ := rfl
@[simp] theorem kSl'_ev {l : Option Int} {hi : EnvD → Rs (Option Int)} : kSl' q hi l ρ = (hi ρ).bind (kSl'' q l) := rfl
@[simp] theorem kSl_ev {lo hi : EnvD → Rs (Option Int)} : kSl lo hi q ρ = (lo ρ).bind (kSl' q hi) := rfl
@[simp] theorem nSl_ev {lo hi : EnvD → Rs (Option Int)} : nSl a lo hi ρ = (a ρ).bind (kSl lo hi) := rfl
@[simp] theorem oNone_ev : oNone ρ = .ok none ρ := rfl
def partO : Option D → EnvD → Rs (Option Int)
  | some (.int z), ρ => .ok (some z) ρ
  | _, _ => .bad
@[simp] theorem partO_int {z : Int} : partO (some (.int z)) ρ = .ok (some z) ρ := rfl
def kPart : PD → EnvD → Rs (Option Int) := fun q ρ => partO (q.get ρ) ρ
@[simp] theorem kPart_ev : kPart p ρ = partO (p.get ρ) ρ := rfl
@[simp] theorem oPart_ev : oPart a ρ = (a ρ).bind kPart := by
  unfold oPart kPart
  congr 1
  funext q ρ1
  unfold partO
  cases q.get ρ1 with
  | none => rfl
  | some d => cases d <;> rfl
def kSeq : D → EnvD → Rs (List D) := fun d ρ => optR (itemsD d) ρ
@[simp] theorem kSeq_ev : kSeq d ρ = optR (itemsD d) ρ := rfl
@[simp] theorem iSeq_ev : iSeq f ρ = (f ρ).bind kSeq := rfl
@[simp] theorem items_lst : itemsD (.lst ds) = some ds := rfl
@[simp] theorem items_seq : itemsD (.seq ds) = some ds := rfl
@[simp] theorem items_tup : itemsD (.tup ds) = some ds := rfl
def enumO : D → EnvD → Rs (List D)
  | .lst l, ρ => .ok (enumD 0 l) ρ
  | .seq l, ρ => .ok (enumD 0 l) ρ
  | _, _ => .bad
@[simp] theorem enumO_lst : enumO (.lst ds) ρ = .ok (enumD 0 ds) ρ := rfl
@[simp] theorem iEnum_ev : iEnum f ρ = (f ρ).bind enumO := by
  unfold iEnum
  congr 1
  funext d ρ1
  cases d <;> rfl
def zipO (d : D) : D → EnvD → Rs (List D) := fun e ρ => match d, e with
  | .lst l, .lst m => .ok (zipD l m) ρ
  | .tup l, .tup m => .ok (zipD l m) ρ
  | _, _ => .bad
def kZip (g : EnvD → Rs D) : D → EnvD → Rs (List D) := fun d ρ => (g ρ).bind (zipO d)
@[simp] theorem zipO_lst : zipO (.lst ds) (.lst es) ρ = .ok (zipD ds es) ρ := rfl
@[simp] theorem zipO_tup : zipO (.tup ds) (.tup es) ρ = .ok (zipD ds es) ρ := rfl
@[simp] theorem kZip_ev : kZip f d ρ = (f ρ).bind (zipO d) := rfl
@[simp] theorem iZip_ev : iZip f f2 ρ = (f ρ).bind (kZip f2) := rfl
def rngO : Option D → EnvD → Rs (List D)
  | some (.int j), ρ => if smallR j = true then .ok (rngD 0 j) ρ else .bad
  | _, _ => .bad
@[simp] theorem rngO_int {z : Int} (h : smallR z = true) : rngO (some (.int z)) ρ = .ok (rngD 0 z) ρ := by
  show (if smallR z = true then Rs.ok (rngD 0 z) ρ else .bad) = _
  rw [if_pos h]
def kRng : PD → EnvD → Rs (List D) := fun p ρ => rngO (p.get ρ) ρ
@[simp] theorem kRng_ev : kRng p ρ = rngO (p.get ρ) ρ := rfl
@[simp] theorem iRange1_ev : iRange1 a ρ = (a ρ).bind kRng := by
  unfold iRange1 kRng
  congr 1
  funext p ρ1
  unfold rngO
  cases p.get ρ1 with
  | none => rfl
  | some d => cases d <;> rfl
/-! comprehensions -/
def kLc (g : D → EnvD → Option EnvD) (t : EnvD → Rs Bool) (e : EnvD → Rs D) (vs : List Nat) (ρ1 : EnvD) : List D → EnvD → Rs CO := fun r ρ2 => .ok (.lst r) (unwipe ρ1 ρ2 vs)
@[simp] theorem kLc_ev {g : D → EnvD → Option EnvD} {t : EnvD → Rs Bool} {e : EnvD → Rs D} {vs : List Nat} : kLc g t e vs ρ ds ρ' = .ok (.lst ds) (unwipe ρ ρ' vs) := rfl
def kComp (g : D → EnvD → Option EnvD) (t : EnvD → Rs Bool) (e : EnvD → Rs D) (vs : List Nat) : List D → EnvD → Rs CO := fun ds ρ1 => if ds.length ≤ 100000 then (compL g t e vs ds (wipeD ρ1 vs)).bind (kLc g t e vs ρ1) else .bad
@[simp] theorem kComp_ev {g : D → EnvD → Option EnvD} {t : EnvD → Rs Bool} {e : EnvD → Rs D} {vs : List Nat} : kComp g t e vs ds ρ = if ds.length ≤ 100000 then (compL g t e vs ds (wipeD ρ vs)).bind (kLc g t e vs ρ) else .bad := rfl
@[simp] theorem nComp_ev {u : EnvD → Rs (List D)} {g : D → EnvD → Option EnvD} {t : EnvD → Rs Bool} {e : EnvD → Rs D} {vs : List Nat} : nComp u g t e vs ρ = (u ρ).bind (kComp g t e vs) := rfl
@[simp] theorem tYesB_ev : tYesB ρ = .ok true ρ := rfl
theorem compL_yes {g : D → EnvD → Option EnvD} {t : EnvD → Rs Bool} {e : EnvD → Rs D} {vs : List Nat} {ρ1 ρ2 ρ3 ρ4 : EnvD} {r : List D} (h1 : g d ρ = some ρ1) (h2 : t ρ1 = .ok true ρ2) (h3 : e ρ2 = .ok x ρ3) (h4 : compL g t e vs ds (wipeD ρ3 vs) = .ok r ρ4) : compL g t e vs (d :: ds) ρ = .ok (x :: r) ρ4 := by
  simp only [compL, h1, h2, h3, optR_some, Rs.bind_ok, noEx_ok, if_true, h4]
theorem compL_not {g : D → EnvD → Option EnvD} {t : EnvD → Rs Bool} {e : EnvD → Rs D} {vs : List Nat} {ρ1 ρ2 ρ4 : EnvD} {r : List D} (h1 : g d ρ = some ρ1) (h2 : t ρ1 = .ok false ρ2) (h4 : compL g t e vs ds (wipeD ρ2 vs) = .ok r ρ4) : compL g t e vs (d :: ds) ρ = .ok r ρ4 := by
  simp only [compL, h1, h2, optR_some, Rs.bind_ok, noEx_ok, h4]
  rfl
@[simp] theorem compL_nil {g : D → EnvD → Option EnvD} {t : EnvD → Rs Bool} {e : EnvD → Rs D} {vs : List Nat} : compL g t e vs [] ρ = .ok [] ρ := rfl
@[simp] theorem wipeD_nil : wipeD ρ [] = ρ := rfl
@[simp] theorem wipeD_cons {v : Nat} {vs : List Nat} : wipeD ρ (v :: vs) = (wipeD ρ vs).set v .no := rfl
@[simp] theorem unwipe_nil : unwipe ρ ρ' [] = ρ' := rfl
@[simp] theorem unwipe_cons {v : Nat} {vs : List Nat} : unwipe ρ ρ' (v :: vs) = (unwipe ρ ρ' vs).set v (keepT (ρ.getD v .no)) := rfl
@[simp] theorem keepT_t : keepT (.t d) = .t d := rfl
@[simp] theorem keepT_no : keepT .no = .no := rfl
@[simp] theorem keepT_c : keepT (.c co) = .no := rfl
/-! changed lists, fields -/
def cellK' (i : Nat) (d : D) (ds' : List D) (s : SV) (ρ : EnvD) : Rs D := .ok d (ρ.set i (reCell s (.lst ds')))
def cellG (i : Nat) (s : SV) (ρ : EnvD) : Option (D × List D) → Rs D
  | some (d, ds') => .ok d (ρ.set i (reCell s (.lst ds')))
  | none => .bad
@[simp] theorem cellG_some : cellG i sv ρ (some (d, ds)) = .ok d (ρ.set i (reCell sv (.lst ds))) := rfl
def cellO (i : Nat) (g : List D → List D → Option (D × List D)) (es : List D) (ρ : EnvD) : Option (SV × List D) → Rs D
  | some (s, ds) => cellG i s ρ (g ds es)
  | none => .bad
@[simp] theorem cellO_some {g : List D → List D → Option (D × List D)} : cellO i g es ρ (some (sv, ds)) = cellG i sv ρ (g ds es) := rfl
def kCell (i : Nat) (g : List D → List D → Option (D × List D)) : List D → EnvD → Rs D := fun es ρ1 => cellO i g es ρ1 (lstAt ρ1 i)
@[simp] theorem kCell_ev {g : List D → List D → Option (D × List D)} : kCell i g es ρ = cellO i g es ρ (lstAt ρ i) := rfl
def cell0 (fa : EnvD → Rs (List D)) (i : Nat) (g : List D → List D → Option (D × List D)) (ρ : EnvD) : Option (SV × List D) → Rs D
  | some _ => (fa ρ).bind (kCell i g)
  | none => .bad
@[simp] theorem cell0_some {g : List D → List D → Option (D × List D)} {u : EnvD → Rs (List D)} {t : SV × List D} : cell0 u i g ρ (some t) = (u ρ).bind (kCell i g) := rfl
@[simp] theorem cellM_ev {g : List D → List D → Option (D × List D)} {u : EnvD → Rs (List D)} : cellM i g u ρ = cell0 u i g ρ (lstAt ρ i) := by
  unfold cellM cell0
  cases lstAt ρ i with
  | none => rfl
  | some t =>
    show (u ρ).bind _ = (u ρ).bind _
    congr 1
    funext es ρ1
    unfold kCell cellO
    cases lstAt ρ1 i with
    | none => rfl
    | some t =>
      obtain ⟨s, ds⟩ := t
      show _ = cellG i s ρ1 (g ds es)
      unfold cellG
      cases hg : g ds es with
      | none => simp only [hg]
      | some dd => obtain ⟨d, ds'⟩ := dd; simp only [hg]
@[simp] theorem gApp_ev : gApp ds [x] = if ds.length < 10000 then some (.non, ds ++ [x]) else none := rfl
def fldO (nms : List Str) (f : Str) (i : Nat) (d : D) (ρ : EnvD) : Option (SV × Str × List (Str × D)) → RS
  | some (s, nm, fs) => if inL nm nms = true ∧ fs.length < 1000 then .nx (ρ.set i (reCell s (.ins nm (putD f d fs)))) else .bad
  | none => .bad
@[simp] theorem fldO_some {nms : List Str} {f nm : Str} {fs : List (Str × D)} : fldO nms f i d ρ (some (sv, nm, fs)) = if inL nm nms = true ∧ fs.length < 1000 then .nx (ρ.set i (reCell sv (.ins nm (putD f d fs)))) else .bad := rfl
def kFld (nms : List Str) (f : Str) (i : Nat) : D → EnvD → RS := fun d ρ => fldO nms f i d ρ (insAt ρ i)
@[simp] theorem kFld_ev {nms : List Str} {fl : Str} : kFld nms fl i d ρ = fldO nms fl i d ρ (insAt ρ i) := rfl
@[simp] theorem sFldD_ev {nms : List Str} {fl : Str} : sFldD nms fl i f ρ = (f ρ).bindS (kFld nms fl i) := by
  unfold sFldD kFld
  congr 1
def putIxJ (i : Nat) (s : SV) (ds : List D) (d : D) (ρ : EnvD) : Option Nat → RS
  | some j => .nx (ρ.set i (reCell s (.lst (ds.set j d))))
  | none => .bad
@[simp] theorem putIxJ_some {j : Nat} : putIxJ i sv ds d ρ (some j) = .nx (ρ.set i (reCell sv (.lst (ds.set j d)))) := rfl
def putIxO (i : Nat) (d k : D) (ρ : EnvD) : Option (SV × List D) → RS
  | some (s, ds) => match k with
    | .int n => putIxJ i s ds d ρ (ixN ds.length n)
    | _ => .bad
  | none => .bad
@[simp] theorem putIxO_some {z : Int} : putIxO i d (.int z) ρ (some (sv, ds)) = putIxJ i sv ds d ρ (ixN ds.length z) := rfl
def kPutIx' (i : Nat) (d : D) : D → EnvD → RS := fun k ρ => putIxO i d k ρ (lstAt ρ i)
@[simp] theorem kPutIx'_ev : kPutIx' i d x ρ = putIxO i d x ρ (lstAt ρ i) := rfl
def putIx0 (i : Nat) (fi : EnvD → Rs D) (d : D) (ρ : EnvD) : Option D → RS
  | some _ => (fi ρ).bindS (kPutIx' i d)
  | none => .bad
@[simp] theorem putIx0_some : putIx0 i f d ρ (some x) = (f ρ).bindS (kPutIx' i d) := rfl
def kPutIx (i : Nat) (fi : EnvD → Rs D) : D → EnvD → RS := fun d ρ => putIx0 i fi d ρ (viewD ρ i)
@[simp] theorem kPutIx_ev : kPutIx i f d ρ = putIx0 i f d ρ (viewD ρ i) := rfl
@[simp] theorem sPutIx_ev : sPutIx i f f2 ρ = (f ρ).bindS (kPutIx i f2) := by
  unfold sPutIx kPutIx
  congr 1
  funext d ρ1
  unfold putIx0
  cases viewD ρ1 i with
  | none => rfl
  | some _ =>
    show (f2 ρ1).bindS _ = (f2 ρ1).bindS _
    congr 1
    funext k ρ2
    unfold kPutIx' putIxO
    cases lstAt ρ2 i with
    | none => rfl
    | some t =>
      obtain ⟨s, ds⟩ := t
      cases k with
      | int n =>
        show (match ixN ds.length n with | some j => _ | none => _) = _
        show _ = putIxJ i s ds d ρ2 (ixN ds.length n)
        unfold putIxJ
        cases ixN ds.length n <;> rfl
      | _ => rfl
/-! parallel assignment -/
@[simp] theorem mNil_ev : mNil ρ = .ok [] ρ := rfl
def kM' (x : MI) : List MI → EnvD → Rs (List MI) := fun ms ρ => .ok (x :: ms) ρ
@[simp] theorem kM'_ev {ms : List MI} {w : MI} : kM' w ms ρ = .ok (w :: ms) ρ := rfl
def kMD (g : EnvD → Rs (List MI)) : D → EnvD → Rs (List MI) := fun x ρ => (g ρ).bind (kM' (.d x))
def kMN (g : EnvD → Rs (List MI)) : CO → EnvD → Rs (List MI) := fun co ρ => if co.dc = true then .bad else (g ρ).bind (kM' (.n co))
@[simp] theorem kMD_ev {g : EnvD → Rs (List MI)} : kMD g x ρ = (g ρ).bind (kM' (.d x)) := rfl
@[simp] theorem kMN_ev {g : EnvD → Rs (List MI)} : kMN g co ρ = if co.dc = true then .bad else (g ρ).bind (kM' (.n co)) := rfl
@[simp] theorem mD_ev {g : EnvD → Rs (List MI)} : mD f g ρ = (f ρ).bind (kMD g) := rfl
@[simp] theorem mN_ev {g : EnvD → Rs (List MI)} : mN fn g ρ = (fn ρ).bind (kMN g) := rfl
@[simp] theorem dc_lst : (CO.lst ds).dc = false := rfl
@[simp] theorem dc_tup : (CO.tup ds).dc = false := rfl
def kPar (is : List Nat) : List MI → EnvD → RS := fun ms ρ => asgO (parS is ms ρ)
@[simp] theorem kPar_ev {is : List Nat} {ms : List MI} : kPar is ms ρ = asgO (parS is ms ρ) := rfl
@[simp] theorem sPar_ev {is : List Nat} {u : EnvD → Rs (List MI)} : sPar is u ρ = (u ρ).bindS (kPar is) := by
  unfold sPar kPar
  congr 1
@[simp] theorem parS_nil : parS [] [] ρ = some ρ := rfl
@[simp] theorem parS_d {is : List Nat} {ms : List MI} : parS (i :: is) (.d x :: ms) ρ = if isP ρ i = true then none else parS is ms (ρ.set i (.t x)) := rfl
@[simp] theorem parS_n {is : List Nat} {ms : List MI} : parS (i :: is) (.n co :: ms) ρ = if isP ρ i = true then none else parS is ms (ρ.set i (.c co)) := rfl
/-! a def -/
def runK (svs : List SV) (k : Nat) : RS → RF
  | .nx ρ => if outsOk svs (ρ.take k) = true then .ok .non (ρ.take k) else .bad
  | .rn co ρ => if outsOk svs (ρ.take k) = true then .okN co (ρ.take k) else .bad
  | .rt d ρ => if outsOk svs (ρ.take k) = true then .ok d (ρ.take k) else .bad
  | .ex c fs ρ => if outsOk svs (ρ.take k) = true then .ex c fs (ρ.take k) else .bad
  | _ => .bad
@[simp] theorem runK_nx : runK ss k (.nx ρ) = if outsOk ss (ρ.take k) = true then .ok .non (ρ.take k) else .bad := rfl
@[simp] theorem runK_rt : runK ss k (.rt d ρ) = if outsOk ss (ρ.take k) = true then .ok d (ρ.take k) else .bad := rfl
@[simp] theorem runK_rn : runK ss k (.rn co ρ) = if outsOk ss (ρ.take k) = true then .okN co (ρ.take k) else .bad := rfl
theorem runFn_ev (h : ss.length = k) : runFn n k s ss = runK ss k (s (ss ++ List.replicate (n - k) .no)) := by
  unfold runFn runK
  rw [if_pos h]
  first | done | (cases s (ss ++ List.replicate (n - k) .no) <;> rfl)
@[simp] theorem runFn1 {x1 : SV} : runFn n 1 s [x1] = runK [x1] 1 (s (x1 :: List.replicate (n - 1) .no)) := runFn_ev rfl
@[simp] theorem runFn2 {x1 x2 : SV} : runFn n 2 s [x1, x2] = runK [x1, x2] 2 (s (x1 :: x2 :: List.replicate (n - 2) .no)) := runFn_ev rfl
@[simp] theorem runFn3 {x1 x2 x3 : SV} : runFn n 3 s [x1, x2, x3] = runK [x1, x2, x3] 3 (s (x1 :: x2 :: x3 :: List.replicate (n - 3) .no)) := runFn_ev rfl
@[simp] theorem runFn4 {x1 x2 x3 x4 : SV} : runFn n 4 s [x1, x2, x3, x4] = runK [x1, x2, x3, x4] 4 (s (x1 :: x2 :: x3 :: x4 :: List.replicate (n - 4) .no)) := runFn_ev rfl
@[simp] theorem runFn5 {x1 x2 x3 x4 x5 : SV} : runFn n 5 s [x1, x2, x3, x4, x5] = runK [x1, x2, x3, x4, x5] 5 (s (x1 :: x2 :: x3 :: x4 :: x5 :: List.replicate (n - 5) .no)) := runFn_ev rfl
@[simp] theorem runFn6 {x1 x2 x3 x4 x5 x6 : SV} : runFn n 6 s [x1, x2, x3, x4, x5, x6] = runK [x1, x2, x3, x4, x5, x6] 6 (s (x1 :: x2 :: x3 :: x4 :: x5 :: x6 :: List.replicate (n - 6) .no)) := runFn_ev rfl
@[simp] theorem outsOk_nil : outsOk [] [] = true := rfl
@[simp] theorem outsOk_t : outsOk (.t d :: ss) (sv :: os) = outsOk ss os := by cases sv <;> rfl
@[simp] theorem outsOk_p {co2 : CO} : outsOk (.p co :: ss) (.p co2 :: os) = outsOk ss os := rfl
/-! operations on plain data -/
variable {u v : Int} {z w : Bool}
@[simp] theorem addD_int : addD (.int u) (.int v) = some (.int (u + v)) := rfl
@[simp] theorem plusD_int : plusD (.int u) (.int v) = some (.int (u + v)) := rfl
@[simp] theorem subD_int : subD (.int u) (.int v) = some (.int (u - v)) := rfl
theorem mulD_int (h : (small64I u || small64I v) = true) : mulD (.int u) (.int v) = some (.int (u * v)) := by
  show (if (small64I u || small64I v) = true then some (D.int (u * v)) else none) = _
  rw [if_pos h]
@[simp] theorem mulD_l (h : small64I u = true) : mulD (.int u) (.int v) = some (.int (u * v)) := mulD_int (by rw [h]; rfl)
@[simp] theorem mulD_r (h : small64I v = true) : mulD (.int u) (.int v) = some (.int (u * v)) := mulD_int (by rw [h, Bool.or_true])
@[simp] theorem fdivD_int (h1 : 0 < v) (h2 : v < 1073741824) : fdivD (.int u) (.int v) = some (.int (u / v)) := by
  show (if (decide (0 < v) && decide (v < 1073741824)) = true then some (D.int (u / v)) else none) = _
  rw [if_pos (by simp [h1, h2])]
@[simp] theorem modD_int : modD (.int u) (.int v) = if 0 < v then some (.int (u % v)) else none := rfl
@[simp] theorem negD_int : negD (.int u) = some (.int (-u)) := rfl
@[simp] theorem ltD_int : ltD (.int u) (.int v) = some (.bl (decide (u < v))) := rfl
@[simp] theorem leD_int : leD (.int u) (.int v) = some (.bl (decide (u ≤ v))) := rfl
@[simp] theorem gtD_int : gtD (.int u) (.int v) = some (.bl (decide (v < u))) := rfl
@[simp] theorem geD_int : geD (.int u) (.int v) = some (.bl (decide (v ≤ u))) := rfl
@[simp] theorem isD_non : isD .non .non = some (.bl true) := rfl
@[simp] theorem isD_int : isD (.int u) .non = some (.bl false) := rfl
@[simp] theorem isD_lst : isD (.lst ds) .non = some (.bl false) := rfl
@[simp] theorem isD_tup : isD (.tup ds) .non = some (.bl false) := rfl
@[simp] theorem isntD_non : isntD .non .non = some (.bl false) := rfl
@[simp] theorem isntD_int : isntD (.int u) .non = some (.bl true) := rfl
@[simp] theorem isntD_lst : isntD (.lst ds) .non = some (.bl true) := rfl
@[simp] theorem isntD_tup : isntD (.tup ds) .non = some (.bl true) := rfl
@[simp] theorem lenD_lst : lenD [.lst ds] = some (.int ds.length) := rfl
@[simp] theorem lenD_tup : lenD [.tup ds] = some (.int ds.length) := rfl
@[simp] theorem lenD_seq : lenD [.seq ds] = some (.int ds.length) := rfl
@[simp] theorem intD_int : intD [.int u] = some (.int u) := rfl
@[simp] theorem intD_bl : intD [.bl z] = some (.int (if z then 1 else 0)) := rfl
@[simp] theorem maxD_int : maxD [.int u, .int v] = some (.int (if v > u then v else u)) := rfl
@[simp] theorem minD_int : minD [.int u, .int v] = some (.int (if v < u then v else u)) := rfl
@[simp] theorem anyD_lst : anyD [.lst ds] = (blsOf ds).map fun bs => .bl (bs.any id) := rfl
@[simp] theorem allD_lst : allD [.lst ds] = (blsOf ds).map fun bs => .bl (bs.all id) := rfl
theorem blsOf_map : ∀ {α : Type} {l : List α} {f : α → Bool}, blsOf (l.map fun x => D.bl (f x)) = some (l.map f)
  | _, [], _ => rfl
  | _, x :: l, f => by
    show (blsOf (l.map fun x => D.bl (f x))).map _ = _
    rw [blsOf_map]
    rfl
theorem intsOf_map : ∀ {l : List Int}, intsOf (l.map D.int) = some l
  | [] => rfl
  | x :: l => by
    show (intsOf (l.map D.int)).map _ = _
    rw [intsOf_map]
    rfl
@[simp] theorem listD_lst : listD [.lst ds] = some (.lst ds) := rfl
@[simp] theorem listD_tup : listD [.tup ds] = some (.lst ds) := rfl
@[simp] theorem tupleD_lst : tupleD [.lst ds] = some (.tup ds) := rfl
@[simp] theorem ixD_lst : ixD (.lst ds) (.int u) = atI ds u := rfl
@[simp] theorem ixD_tup : ixD (.tup ds) (.int u) = atI ds u := rfl
@[simp] theorem ixD_seq : ixD (.seq ds) (.int u) = atI ds u := rfl
@[simp] theorem catD_lst : catD (.lst ds) (.lst es) = if ds.length + es.length ≤ sizeLine then some (.lst (ds ++ es)) else none := rfl
@[simp] theorem slD_lst {lo hi : Option Int} : slD (.lst ds) lo hi = some (.lst (cutD ds lo hi)) := rfl
end
end DL

namespace K15
open PySem PySem.Spec PyProof.Rows L2 DL
def top (i : Nat) : Stmt := PySem.Challenge.pw_risingday_k15_whole_rows_rise.main.body.getD i (.Pass ⟨0, 0, 0, 0⟩)
abbrev s__law_rounds : Stmt := top 49
abbrev s__law_pool : Stmt := top 46
abbrev s__law_take : Stmt := top 47
abbrev s__law_moment : Stmt := top 51
abbrev s__law_one : Stmt := top 48
abbrev s_is_list : Stmt := top 7
abbrev s_is_integer : Stmt := top 3
abbrev s_is_between : Stmt := top 4
abbrev s_is_minute : Stmt := top 6
abbrev s_is_span : Stmt := top 28
abbrev s_is_hours : Stmt := top 29
abbrev s_Hours___init__ : Stmt := inClass (top 30) 0
abbrev s_is_count : Stmt := top 5
abbrev s_is_moment : Stmt := top 14
abbrev s_check_moments : Stmt := top 17
abbrev s_check_counts : Stmt := top 40
abbrev s_check_desks : Stmt := top 18
abbrev s_check_hours : Stmt := top 38
abbrev s_Hours_gate_at : Stmt := inClass (top 30) 2
abbrev s_latest_of : Stmt := top 21
abbrev s_so_many_th : Stmt := top 23
abbrev s_free_desk : Stmt := top 24
abbrev s_desk_begin : Stmt := top 33
abbrev s_moment_sum : Stmt := top 20
abbrev s_counter_row : Stmt := top 41
abbrev s__law_raised : Stmt := top 53
abbrev s_check_one_moment : Stmt := top 15
abbrev s_is_less : Stmt := top 19
abbrev s_is_earlier : Stmt := top 25
abbrev s__law_none_earlier : Stmt := top 52
abbrev s__law_spans : Stmt := top 50
abbrev s_is_within : Stmt := top 31
abbrev s_Hours___le__ : Stmt := inClass (top 30) 7
abbrev s__law_counter_rises : Stmt := top 54
abbrev s_check_whole : Stmt := top 16
abbrev s_check_quorum : Stmt := top 39
abbrev s_meet_begin : Stmt := top 34
abbrev s_meet_end : Stmt := top 35
abbrev s_meeting_row : Stmt := top 42
abbrev s__law_meeting_rises : Stmt := top 55
abbrev s_check_notices : Stmt := top 43
abbrev s_turned_begin : Stmt := top 36
abbrev s_first_of : Stmt := top 22
abbrev s_early_end : Stmt := top 37
abbrev s_room_row : Stmt := top 44
abbrev s__law_room_rises : Stmt := top 56
abbrev s_law : Stmt := top 57
/-- what isinstance is asked of -/
abbrev insts : List Str := ["Hours"]
abbrev asked : List Str := ["Hours"]
abbrev ownT : List (Str × Ty × Bool) := []
def isI (bs : List Ty) (d : D) : Option D := isiD insts asked ownT bs d
def m__law_rounds : Mir := runFn 1 1 (sRetO (nOp1 rg1D (pE (eCall maxD (oCons (pE (eC (.int 1))) (oCons (pE (eCall minD (oCons (pE (eCall lenD (oCons (pV 0) (oNil)))) (oCons (pE (eC (.int 4))) (oNil))))) (oNil)))))))
def m__law_pool : Mir := runFn 5 2 (sSeq (sSet 2 (eC (.int 0)))
 (sSeq (sIf (tB (eOp2 ltD (pV 1) (pE (eCall lenD (oCons (pV 0) (oNil))))))
  (sSet 2 (eOp2 ixD (pV 0) (pV 1)))
  (sNx))
 (sSeq (sSet 3 (eCall maxD (oCons (pE (eCall intD (oCons (pV 2) (oNil)))) (oCons (pE (eCall intD (oCons (pE (eOp2 subD (pE (eOp1 negD (pE (eC (.int 1))))) (pV 2))) (oNil)))) (oNil)))))
 (sSeq (sSet 4 (eOp2 modD (pE (eCall intD (oCons (pE (eOp2 mulD (pE (eOp2 plusD (pE (eOp2 plusD (pE (eOp2 plusD (pE (eOp2 modD (pE (eCall intD (oCons (pV 3) (oNil)))) (pE (eC (.int 2147483629))))) (pE (eOp2 mulD (pE (eOp2 mulD (pE (eC (.int 7919))) (pV 1))) (pV 1))))) (pE (eOp2 mulD (pE (eC (.int 31))) (pV 1))))) (pE (eC (.int 17))))) (pE (eC (.int 48271))))) (oNil)))) (pE (eC (.int 2147483647)))))
 (sRetO (nLst (aCons (eOp2 mulD (pV 3) (pE (eCall intD (oCons (pE (eOp2 geD (pV 3) (pE (eOp2 powD (pE (eC (.int 10))) (pE (eC (.int 18))))))) (oNil))))) (aCons (eVar 4) (aNil)))))))))
def m__law_take : Mir := runFn 3 2 (sSeq (sIf (tB (eOp2 gtD (pE (eOp2 ixD (pV 0) (pE (eC (.int 0))))) (pE (eC (.int 0)))))
  (sSeq (sSet 2 (eOp2 modD (pE (eCall intD (oCons (pE (eOp2 ixD (pV 0) (pE (eC (.int 0))))) (oNil)))) (pV 1)))
  (sSeq (sPutIx 0 (eOp2 fdivD (pE (eOp2 ixD (pV 0) (pE (eC (.int 0))))) (pV 1)) (eC (.int 0)))
  (sRetV 2)))
  (sNx))
 (sSeq (sPutIx 0 (eOp2 modD (pE (eCall intD (oCons (pE (eOp2 plusD (pE (eOp2 mulD (pE (eOp2 ixD (pV 0) (pE (eC (.int 1))))) (pE (eC (.int 39373))))) (pE (eC (.int 7))))) (oNil)))) (pE (eC (.int 2147483647)))) (eC (.int 1)))
 (sRet (eOp2 modD (pE (eCall intD (oCons (pE (eOp2 fdivD (pE (eOp2 modD (pE (eCall intD (oCons (pE (eOp2 mulD (pE (eOp2 ixD (pV 0) (pE (eC (.int 1))))) (pE (eOp2 ixD (pV 0) (pE (eC (.int 1))))))) (oNil)))) (pE (eC (.int 2147483629))))) (pE (eC (.int 32))))) (oNil)))) (pV 1)))))
def m__law_moment : Mir := runFn 2 2 (sRet (eIf (tB (eOp2 eqD (pE (callD 2 m__law_take [] (oCons (pV 0) (oCons (pE (eC (.int 9))) (oNil))))) (pE (eC (.int 0))))) (eC .non) (callD 2 m__law_take [] (oCons (pV 0) (oCons (pE (eVar 1)) (oNil))))))
def m__law_one : Mir := runFn 2 2 (sRet (eOp2 ixD (pV 1) (pE (callD 2 m__law_take [] (oCons (pV 0) (oCons (pE (eCall lenD (oCons (pV 1) (oNil)))) (oNil)))))))
def m_is_list : Mir := runFn 1 1 (sRet (eOp1 (isI [.lst, .tup]) (pV 0)))
def m_is_integer : Mir := runFn 1 1 (sRet (eAnd (eOp1 (isI [.int]) (pV 0)) (eOp1 notD (pE (eOp1 (isI [.bl]) (pV 0))))))
def m_is_between : Mir := runFn 3 3 (sRet (eAnd (callD 1 m_is_integer [] (oCons (pE (eVar 0)) (oNil))) (eChain leD leD (pV 1) (pV 0) (pV 2))))
def m_is_minute : Mir := runFn 1 1 (sRet (callD 3 m_is_between [] (oCons (pE (eVar 0)) (oCons (pE (eC (.int 0))) (oCons (pE (eC (.int 9999))) (oNil))))))
def m_is_span : Mir := runFn 1 1 (sSeq (sIf (wOr (wNot (tTr (pE (eOp1 (isI [.tup]) (pV 0))))) (tB (eOp2 neD (pE (eCall lenD (oCons (pV 0) (oNil)))) (pE (eC (.int 2))))))
  (sRet (eC (.bl false)))
  (sNx))
 (sRet (eAnd (callD 1 m_is_minute [] (oCons (pE (eOp2 ixD (pV 0) (pE (eC (.int 0))))) (oNil))) (eAnd (callD 1 m_is_minute [] (oCons (pE (eOp2 ixD (pV 0) (pE (eC (.int 1))))) (oNil))) (eOp2 leD (pE (eOp2 ixD (pV 0) (pE (eC (.int 0))))) (pE (eOp2 ixD (pV 0) (pE (eC (.int 1))))))))))
def m_is_hours : Mir := runFn 3 1 (sSeq (sIf (tB (eOp2 isD (pV 0) (pE (eC .non))))
  (sRet (eC (.bl true)))
  (sNx))
 (sSeq (sIf (wOr (wNot (tTr (pE (callD 1 m_is_list [] (oCons (pE (eVar 0)) (oNil)))))) (wOr (tB (eOp2 gtD (pE (eCall lenD (oCons (pV 0) (oNil)))) (pE (eC (.int 4))))) (wNot (tTr (pE (eCall allD (oCons (pE (fz (nComp (iSeq (eVar 0)) (gN 1) (tYesB) (callD 1 m_is_span [] (oCons (pE (eVar 1)) (oNil))) [1]))) (oNil))))))))
  (sRet (eC (.bl false)))
  (sNx))
 (sRet (eCall allD (oCons (pE (fz (nComp (iZip (eVar 0) (fz (nSl (pV 0) (oPart (pE (eC (.int 1)))) (oNone)))) (gT 2 (gsCons (gN 1) (gsCons (gN 2) (gsNil)))) (tYesB) (eOp2 ltD (pE (eOp2 ixD (pV 1) (pE (eC (.int 1))))) (pE (eOp2 ixD (pV 2) (pE (eC (.int 0)))))) [1, 2]))) (oNil))))))
def m_Hours___init__ : Mir := runFn 2 2 (sSeq (sIf (wNot (tTr (pE (callD 1 m_is_hours [] (oCons (pE (eVar 1)) (oNil))))))
  (sBad)
  (sNx))
 (sFldD ["Hours"] "own_spans" 0 (eIf (tB (eOp2 isD (pV 1) (pE (eC .non)))) (eC .non) (fz (nCall tupleD (oCons (pV 1) (oNil)))))))
def m_is_count : Mir := runFn 1 1 (sRet (eAnd (callD 1 m_is_integer [] (oCons (pE (eVar 0)) (oNil))) (eOp2 geD (pV 0) (pE (eC (.int 0))))))
def m_is_moment : Mir := runFn 1 1 (sRet (eOr (eOp2 isD (pV 0) (pE (eC .non))) (callD 1 m_is_count [] (oCons (pE (eVar 0)) (oNil)))))
def m_check_moments : Mir := runFn 3 2 (sIf (wOr (wNot (tTr (pE (callD 1 m_is_list [] (oCons (pE (eVar 1)) (oNil)))))) (wNot (tTr (pE (eCall allD (oCons (pE (fz (nComp (iSeq (eVar 1)) (gN 2) (tYesB) (callD 1 m_is_moment [] (oCons (pE (eVar 2)) (oNil))) [2]))) (oNil)))))))
  (sBad)
  (sNx))
def m_check_counts : Mir := runFn 4 3 (sIf (wOr (wNot (tTr (pE (callD 1 m_is_list [] (oCons (pE (eVar 1)) (oNil)))))) (wOr (tB (eOp2 neD (pE (eCall lenD (oCons (pV 1) (oNil)))) (pV 2))) (wNot (tTr (pE (eCall allD (oCons (pE (fz (nComp (iSeq (eVar 1)) (gN 3) (tYesB) (callD 1 m_is_count [] (oCons (pE (eVar 3)) (oNil))) [3]))) (oNil))))))))
  (sBad)
  (sNx))
def m_check_desks : Mir := runFn 1 1 (sIf (wNot (tTr (pE (callD 3 m_is_between [] (oCons (pE (eVar 0)) (oCons (pE (eC (.int 1))) (oCons (pE (eC (.int 3))) (oNil))))))))
  (sBad)
  (sNx))
def m_check_hours : Mir := runFn 1 1 (sIf (wNot (tTr (pE (eOp1 (isI [.own "Hours"]) (pV 0)))))
  (sBad)
  (sNx))
def m_Hours_gate_at : Mir := runFn 6 3 (sSeq (sIf (wOr (tB (eOp2 isD (pV 2) (pE (eC .non)))) (tB (eOp2 isD (pE (eOp1 (fldD ["Hours"] "own_spans") (pV 0))) (pE (eC .non)))))
  (sRetV 2)
  (sNx))
 (sSeq (sFor (iSeq (eOp1 (fldD ["Hours"] "own_spans") (pV 0))) (gT 2 (gsCons (gN 3) (gsCons (gN 4) (gsNil))))
  (sSeq (sSet 5 (eIf (tB (eOp2 ltD (pV 2) (pV 3))) (eVar 3) (eVar 2)))
  (sIf (tB (eOp2 leD (pE (eOp2 plusD (pV 5) (pV 1))) (pV 4)))
   (sRetV 5)
   (sNx))))
 (sRet (eC .non))))
def m_latest_of : Mir := runFn 3 1 (sSeq (sSet 1 (eC (.int 0)))
 (sSeq (sFor (iSeq (eVar 0)) (gN 2)
  (sSeq (sIf (tB (eOp2 isD (pV 2) (pE (eC .non))))
   (sRet (eC .non))
   (sNx))
  (sSet 1 (eIf (tB (eOp2 ltD (pV 1) (pV 2))) (eVar 2) (eVar 1)))))
 (sRetV 1)))
def m_so_many_th : Mir := runFn 4 2 (sSeq (sSet 2 (fz (nCall sortedD (oCons (pE (fz (nComp (iSeq (eVar 0)) (gN 3) (tB (eOp2 isntD (pV 3) (pE (eC .non)))) (eCall intD (oCons (pV 3) (oNil))) [3]))) (oNil)))))
 (sRet (eIf (tB (eOp2 leD (pV 1) (pE (eCall lenD (oCons (pV 2) (oNil)))))) (eOp2 ixD (pV 2) (pE (eOp2 subD (pV 1) (pE (eC (.int 1)))))) (eC .non))))
def m_free_desk : Mir := runFn 2 2 (sRet (eIf (tB (eOp2 ltD (pE (eCall lenD (oCons (pV 0) (oNil)))) (pV 1))) (eC (.int 0)) (callD 2 m_so_many_th [] (oCons (pE (eVar 0)) (oCons (pE (eOp2 plusD (pE (eOp2 subD (pE (eCall lenD (oCons (pV 0) (oNil)))) (pV 1))) (pE (eC (.int 1))))) (oNil))))))
def m_desk_begin : Mir := runFn 6 6 (sRet (methD "Hours" "gate_at" 3 m_Hours_gate_at [] (pE (eVar 4)) (oCons (pE (eVar 5)) (oCons (pE (callD 1 m_latest_of [] (oCons (pE (fz (nLst (aCons (eVar 0) (aCons (eVar 1) (aCons (callD 2 m_free_desk [] (oCons (pE (eVar 2)) (oCons (pE (eVar 3)) (oNil)))) (aNil))))))) (oNil)))) (oNil)))))
def m_moment_sum : Mir := runFn 2 2 (sRet (eIf (tB (eOp2 isD (pV 0) (pE (eC .non)))) (eC .non) (eOp2 plusD (pV 0) (pV 1))))
def m_counter_row : Mir := runFn 9 4 (sSeq (sDrop (callD 2 m_check_moments [] (oCons (pE (eC (.str "arrivals"))) (oCons (pE (eVar 0)) (oNil)))))
 (sSeq (sDrop (callD 3 m_check_counts [] (oCons (pE (eC (.str "lengths"))) (oCons (pE (eVar 1)) (oCons (pE (eCall lenD (oCons (pV 0) (oNil)))) (oNil))))))
 (sSeq (sDrop (callD 1 m_check_desks [] (oCons (pE (eVar 2)) (oNil))))
 (sSeq (sDrop (callD 1 m_check_hours [] (oCons (pE (eVar 3)) (oNil))))
 (sSeq (sPar [4, 5, 6] (mN (nLst (aNil)) (mD (eC (.int 0)) (mN (nLst (aNil)) (mNil)))))
 (sSeq (sFor (iZip (eVar 0) (eVar 1)) (gT 2 (gsCons (gN 7) (gsCons (gN 8) (gsNil))))
  (sSeq (sSet 5 (callB 6 m_desk_begin [] (oCons (pE (eVar 7)) (oCons (pE (eVar 5)) (oCons (pV 6) (oCons (pE (eVar 2)) (oCons (pE (eVar 3)) (oCons (pE (eVar 8)) (oNil)))))))))
  (sSeq (sDrop (cellM 6 gApp (aCons (callD 2 m_moment_sum [] (oCons (pE (eVar 5)) (oCons (pE (eVar 8)) (oNil)))) (aNil))))
  (sDrop (cellM 4 gApp (aCons (fz (nTup (aCons (eVar 5) (aCons (eOp2 ixD (pV 6) (pE (eOp1 negD (pE (eC (.int 1)))))) (aNil))))) (aNil)))))))
 (sRetV 4)))))))
def m__law_raised : Mir := runFn 4 3 (sSeq (sSet 3 (eIf (tB (eOp2 isD (pE (eOp2 ixD (pV 1) (pV 2))) (pE (eC .non)))) (eC .non) (eOp2 plusD (pE (eOp2 plusD (pE (eOp2 ixD (pV 1) (pV 2))) (pE (eC (.int 1))))) (pE (callD 2 m__law_take [] (oCons (pV 0) (oCons (pE (eC (.int 9))) (oNil))))))))
 (sRetO (nOp2 catD (pE (fz (nOp2 catD (pE (fz (nSl (pV 1) (oNone) (oPart (pV 2))))) (pE (fz (nLst (aCons (eVar 3) (aNil)))))))) (pE (fz (nSl (pV 1) (oPart (pE (eOp2 plusD (pV 2) (pE (eC (.int 1)))))) (oNone)))))))
def m_check_one_moment : Mir := runFn 1 1 (sIf (wNot (tTr (pE (callD 1 m_is_moment [] (oCons (pE (eVar 0)) (oNil))))))
  (sBad)
  (sNx))
def m_is_less : Mir := runFn 2 2 (sRet (eAnd (eOp2 isntD (pV 0) (pE (eC .non))) (eOr (eOp2 isD (pV 1) (pE (eC .non))) (eOp2 ltD (pV 0) (pV 1)))))
def m_is_earlier : Mir := runFn 2 2 (sSeq (sDrop (callD 1 m_check_one_moment [] (oCons (pE (eVar 0)) (oNil))))
 (sSeq (sDrop (callD 1 m_check_one_moment [] (oCons (pE (eVar 1)) (oNil))))
 (sRet (callD 2 m_is_less [] (oCons (pE (eVar 0)) (oCons (pE (eVar 1)) (oNil)))))))
def m__law_none_earlier : Mir := runFn 4 2 (sSeq (sFor (iZip (eVar 0) (eVar 1)) (gT 2 (gsCons (gN 2) (gsCons (gN 3) (gsNil))))
  (sIf (wOr (tTr (pE (callD 2 m_is_earlier [] (oCons (pE (eOp2 ixD (pV 3) (pE (eC (.int 0))))) (oCons (pE (eOp2 ixD (pV 2) (pE (eC (.int 0))))) (oNil)))))) (tTr (pE (callD 2 m_is_earlier [] (oCons (pE (eOp2 ixD (pV 3) (pE (eC (.int 1))))) (oCons (pE (eOp2 ixD (pV 2) (pE (eC (.int 1))))) (oNil)))))))
   (sRet (eC (.bl false)))
   (sNx)))
 (sRet (eOp2 eqD (pE (eCall lenD (oCons (pV 0) (oNil)))) (pE (eCall lenD (oCons (pV 1) (oNil)))))))
def m__law_spans : Mir := runFn 6 1 (sSeq (sIf (tB (eOp2 eqD (pE (callD 2 m__law_take [] (oCons (pV 0) (oCons (pE (eC (.int 6))) (oNil))))) (pE (eC (.int 0)))))
  (sRet (eC .non))
  (sNx))
 (sSeq (sPar [1, 2] (mD (eC (.int 0)) (mN (nLst (aNil)) (mNil))))
 (sSeq (sFor (iRange1 (pE (callD 2 m__law_one [] (oCons (pV 0) (oCons (pE (fz (nLst (aCons (eC (.int 0)) (aCons (eC (.int 1)) (aCons (eC (.int 1)) (aCons (eC (.int 2)) (aCons (eC (.int 2)) (aCons (eC (.int 3)) (aCons (eC (.int 4)) (aNil))))))))))) (oNil)))))) (gN 3)
  (sSeq (sSet 4 (eOp2 plusD (pV 1) (pE (callD 2 m__law_take [] (oCons (pV 0) (oCons (pE (eC (.int 4))) (oNil)))))))
  (sSeq (sSet 5 (eOp2 plusD (pV 4) (pE (callD 2 m__law_one [] (oCons (pV 0) (oCons (pE (fz (nLst (aCons (eC (.int 0)) (aCons (eC (.int 1)) (aCons (eC (.int 2)) (aCons (eC (.int 4)) (aCons (eC (.int 6)) (aCons (eC (.int 9)) (aNil)))))))))) (oNil)))))))
  (sSeq (sDrop (cellM 2 gApp (aCons (fz (nTup (aCons (eVar 4) (aCons (eVar 5) (aNil))))) (aNil))))
  (sSet 1 (eOp2 plusD (pE (eOp2 plusD (pV 5) (pE (eC (.int 1))))) (pE (callD 2 m__law_take [] (oCons (pV 0) (oCons (pE (eC (.int 3))) (oNil)))))))))))
 (sRetV 2))))
def m_is_within : Mir := runFn 4 2 (sRet (eCall anyD (oCons (pE (fz (nComp (iSeq (eVar 1)) (gT 2 (gsCons (gN 2) (gsCons (gN 3) (gsNil)))) (tYesB) (eAnd (eOp2 leD (pV 2) (pE (eOp2 ixD (pV 0) (pE (eC (.int 0)))))) (eOp2 leD (pE (eOp2 ixD (pV 0) (pE (eC (.int 1))))) (pV 3))) [2, 3]))) (oNil))))
def m_Hours___le__ : Mir := runFn 3 2 (sSeq (sIf (wNot (tTr (pE (eOp1 (isI [.own "Hours"]) (pV 1)))))
  (sBad)
  (sNx))
 (sSeq (sIf (wOr (tB (eOp2 isD (pE (eOp1 (fldD ["Hours"] "own_spans") (pV 1))) (pE (eC .non)))) (tB (eOp2 isD (pE (eOp1 (fldD ["Hours"] "own_spans") (pV 0))) (pE (eC .non)))))
  (sRet (eOp2 isD (pE (eOp1 (fldD ["Hours"] "own_spans") (pV 1))) (pE (eC .non))))
  (sNx))
 (sRet (eCall allD (oCons (pE (fz (nComp (iSeq (eOp1 (fldD ["Hours"] "own_spans") (pV 0))) (gN 2) (tYesB) (callD 2 m_is_within [] (oCons (pE (eVar 2)) (oCons (pE (eOp1 (fldD ["Hours"] "own_spans") (pV 1))) (oNil)))) [2]))) (oNil))))))
def m__law_counter_rises : Mir := runFn 12 4 (sSeq (sPar [4, 5] (mD (eOp2 plusD (pE (eC (.int 1))) (pE (callD 2 m__law_take [] (oCons (pV 0) (oCons (pE (eC (.int 3))) (oNil)))))) (mD (callD 2 m__law_take [] (oCons (pV 0) (oCons (pE (eCall lenD (oCons (pV 1) (oNil)))) (oNil)))) (mNil))))
 (sSeq (sSet 6 (fz (makeN "Hours" 2 m_Hours___init__ [] (oCons (pE (eVar 3)) (oNil)))))
 (sSeq (sSet 7 (callD 4 m_counter_row [] (oCons (pE (eVar 1)) (oCons (pE (eVar 2)) (oCons (pE (eVar 4)) (oCons (pE (eVar 6)) (oNil)))))))
 (sSeq (sSet 8 (callD 4 m_counter_row [] (oCons (pE (callD 3 m__law_raised [] (oCons (pV 0) (oCons (pE (eVar 1)) (oCons (pE (eVar 5)) (oNil)))))) (oCons (pE (eVar 2)) (oCons (pE (eVar 4)) (oCons (pE (eVar 6)) (oNil)))))))
 (sSeq (sSet 9 (callD 4 m_counter_row [] (oCons (pE (eVar 1)) (oCons (pE (callD 3 m__law_raised [] (oCons (pV 0) (oCons (pE (eVar 2)) (oCons (pE (eVar 5)) (oNil)))))) (oCons (pE (eVar 4)) (oCons (pE (eVar 6)) (oNil)))))))
 (sSeq (sIf (wOr (wNot (tTr (pE (callD 2 m__law_none_earlier [] (oCons (pE (eVar 7)) (oCons (pE (eVar 8)) (oNil))))))) (wNot (tTr (pE (callD 2 m__law_none_earlier [] (oCons (pE (eVar 7)) (oCons (pE (eVar 9)) (oNil))))))))
  (sRet (eC (.bl false)))
  (sNx))
 (sSeq (sIf (wAnd (tB (eOp2 gtD (pV 4) (pE (eC (.int 1))))) (wNot (tTr (pE (callD 2 m__law_none_earlier [] (oCons (pE (eVar 7)) (oCons (pE (callD 4 m_counter_row [] (oCons (pE (eVar 1)) (oCons (pE (eVar 2)) (oCons (pE (eOp2 subD (pV 4) (pE (eC (.int 1))))) (oCons (pE (eVar 6)) (oNil))))))) (oNil))))))))
  (sRet (eC (.bl false)))
  (sNx))
 (sSeq (sSet 10 (fz (makeN "Hours" 2 m_Hours___init__ [] (oCons (pE (eIf (tB (eOp2 isD (pV 3) (pE (eC .non)))) (callD 1 m__law_spans [] (oCons (pV 0) (oNil))) (fz (nComp (iSeq (eVar 3)) (gN 11) (tB (eOp2 gtD (pE (callD 2 m__law_take [] (oCons (pV 0) (oCons (pE (eC (.int 3))) (oNil))))) (pE (eC (.int 0))))) (eVar 11) [11])))) (oNil)))))
 (sSeq (sIf (wOr (wNot (tB (ownD "Hours" m_Hours___le__ (pE (eVar 10)) (pE (eVar 6))))) (wNot (tTr (pE (callD 2 m__law_none_earlier [] (oCons (pE (eVar 7)) (oCons (pE (callD 4 m_counter_row [] (oCons (pE (eVar 1)) (oCons (pE (eVar 2)) (oCons (pE (eVar 4)) (oCons (pE (eVar 10)) (oNil))))))) (oNil))))))))
  (sRet (eC (.bl false)))
  (sNx))
 (sRet (eOp2 eqD (pE (callD 4 m_counter_row [] (oCons (pE (fz (nSl (pV 1) (oNone) (oPart (pV 5))))) (oCons (pE (fz (nSl (pV 2) (oNone) (oPart (pV 5))))) (oCons (pE (eVar 4)) (oCons (pE (eVar 6)) (oNil))))))) (pE (fz (nSl (pV 7) (oNone) (oPart (pV 5))))))))))))))))
def m_check_whole : Mir := runFn 1 1 (sIf (wNot (tTr (pE (callD 1 m_is_count [] (oCons (pE (eVar 0)) (oNil))))))
  (sBad)
  (sNx))
def m_check_quorum : Mir := runFn 2 2 (sIf (wNot (tTr (pE (callD 3 m_is_between [] (oCons (pE (eVar 0)) (oCons (pE (eC (.int 1))) (oCons (pE (eCall lenD (oCons (pV 1) (oNil)))) (oNil))))))))
  (sBad)
  (sNx))
def m_meet_begin : Mir := runFn 3 3 (sRet (callD 1 m_latest_of [] (oCons (pE (fz (nLst (aCons (eVar 0) (aCons (callD 2 m_so_many_th [] (oCons (pE (eVar 1)) (oCons (pE (eVar 2)) (oNil)))) (aNil)))))) (oNil))))
def m_meet_end : Mir := runFn 3 3 (sRet (callD 1 m_latest_of [] (oCons (pE (fz (nLst (aCons (callD 2 m_moment_sum [] (oCons (pE (eVar 0)) (oCons (pE (eVar 1)) (oNil)))) (aCons (eVar 2) (aNil)))))) (oNil))))
def m_meeting_row : Mir := runFn 6 4 (sSeq (sDrop (callD 1 m_check_whole [] (oCons (pE (eVar 0)) (oNil))))
 (sSeq (sDrop (callD 1 m_check_whole [] (oCons (pE (eVar 1)) (oNil))))
 (sSeq (sDrop (callD 2 m_check_moments [] (oCons (pE (eC (.str "arrivals"))) (oCons (pE (eVar 3)) (oNil)))))
 (sSeq (sDrop (callD 2 m_check_quorum [] (oCons (pE (eVar 2)) (oCons (pE (eVar 3)) (oNil)))))
 (sSeq (sSet 4 (callD 3 m_meet_begin [] (oCons (pE (eVar 0)) (oCons (pE (eVar 3)) (oCons (pE (eVar 2)) (oNil))))))
 (sRetO (nComp (iSeq (eVar 3)) (gN 5) (tYesB) (fz (nTup (aCons (eVar 4) (aCons (callD 3 m_meet_end [] (oCons (pE (eVar 4)) (oCons (pE (eVar 1)) (oCons (pE (eVar 5)) (oNil))))) (aNil))))) [5])))))))
def m__law_meeting_rises : Mir := runFn 8 2 (sSeq (sPar [2, 3, 4] (mD (callD 2 m__law_take [] (oCons (pV 0) (oCons (pE (eC (.int 12))) (oNil)))) (mD (callD 2 m__law_take [] (oCons (pV 0) (oCons (pE (eC (.int 9))) (oNil)))) (mD (callD 2 m__law_take [] (oCons (pV 0) (oCons (pE (eCall lenD (oCons (pV 1) (oNil)))) (oNil)))) (mNil)))))
 (sSeq (sSet 5 (eOp2 plusD (pE (eC (.int 1))) (pE (callD 2 m__law_take [] (oCons (pV 0) (oCons (pE (eCall lenD (oCons (pV 1) (oNil)))) (oNil)))))))
 (sSeq (sSet 6 (callD 4 m_meeting_row [] (oCons (pE (eVar 2)) (oCons (pE (eVar 3)) (oCons (pE (eVar 5)) (oCons (pE (eVar 1)) (oNil)))))))
 (sSeq (sSet 7 (callD 4 m_meeting_row [] (oCons (pE (eVar 2)) (oCons (pE (eVar 3)) (oCons (pE (eVar 5)) (oCons (pE (callD 3 m__law_raised [] (oCons (pV 0) (oCons (pE (eVar 1)) (oCons (pE (eVar 4)) (oNil)))))) (oNil)))))))
 (sSeq (sIf (wNot (tTr (pE (callD 2 m__law_none_earlier [] (oCons (pE (eVar 6)) (oCons (pE (eVar 7)) (oNil)))))))
  (sRet (eC (.bl false)))
  (sNx))
 (sSeq (sIf (wNot (tTr (pE (callD 2 m__law_none_earlier [] (oCons (pE (eVar 6)) (oCons (pE (callD 4 m_meeting_row [] (oCons (pE (eOp2 plusD (pV 2) (pE (eC (.int 3))))) (oCons (pE (eVar 3)) (oCons (pE (eVar 5)) (oCons (pE (eVar 1)) (oNil))))))) (oNil)))))))
  (sRet (eC (.bl false)))
  (sNx))
 (sSeq (sIf (wNot (tTr (pE (callD 2 m__law_none_earlier [] (oCons (pE (eVar 6)) (oCons (pE (callD 4 m_meeting_row [] (oCons (pE (eVar 2)) (oCons (pE (eOp2 plusD (pV 3) (pE (eC (.int 3))))) (oCons (pE (eVar 5)) (oCons (pE (eVar 1)) (oNil))))))) (oNil)))))))
  (sRet (eC (.bl false)))
  (sNx))
 (sSeq (sIf (tB (eOp2 eqD (pV 5) (pE (eCall lenD (oCons (pV 1) (oNil))))))
  (sRet (eC (.bl true)))
  (sNx))
 (sRet (callD 2 m__law_none_earlier [] (oCons (pE (eVar 6)) (oCons (pE (callD 4 m_meeting_row [] (oCons (pE (eVar 2)) (oCons (pE (eVar 3)) (oCons (pE (eOp2 plusD (pV 5) (pE (eC (.int 1))))) (oCons (pE (eVar 1)) (oNil))))))) (oNil)))))))))))))
def m_check_notices : Mir := runFn 3 2 (sIf (wOr (wNot (tTr (pE (callD 1 m_is_list [] (oCons (pE (eVar 0)) (oNil)))))) (wOr (tB (eOp2 neD (pE (eCall lenD (oCons (pV 0) (oNil)))) (pV 1))) (wNot (tTr (pE (eCall allD (oCons (pE (fz (nComp (iSeq (eVar 0)) (gN 2) (tYesB) (eOr (eOp2 isD (pV 2) (pE (eC .non))) (callD 1 m_is_count [] (oCons (pE (eVar 2)) (oNil)))) [2]))) (oNil))))))))
  (sBad)
  (sNx))
def m_turned_begin : Mir := runFn 3 3 (sRet (callD 1 m_latest_of [] (oCons (pE (fz (nLst (aCons (eVar 0) (aCons (callD 2 m_moment_sum [] (oCons (pE (eVar 1)) (oCons (pE (eVar 2)) (oNil)))) (aNil)))))) (oNil))))
def m_first_of : Mir := runFn 3 1 (sSeq (sSet 1 (eC .non))
 (sSeq (sFor (iSeq (eVar 0)) (gN 2)
  (sSet 1 (eIf (tTr (pE (callD 2 m_is_less [] (oCons (pE (eVar 2)) (oCons (pE (eVar 1)) (oNil)))))) (eVar 2) (eVar 1))))
 (sRetV 1)))
def m_early_end : Mir := runFn 4 4 (sRet (callD 1 m_first_of [] (oCons (pE (fz (nLst (aCons (callD 2 m_moment_sum [] (oCons (pE (eVar 0)) (oCons (pE (eVar 1)) (oNil)))) (aCons (callD 2 m_moment_sum [] (oCons (pE (callD 1 m_latest_of [] (oCons (pE (fz (nLst (aCons (eVar 0) (aCons (eVar 3) (aNil)))))) (oNil)))) (oCons (pE (eVar 2)) (oNil)))) (aNil)))))) (oNil))))
def m_room_row : Mir := runFn 8 4 (sSeq (sDrop (callD 2 m_check_moments [] (oCons (pE (eC (.str "arrivals"))) (oCons (pE (eVar 0)) (oNil)))))
 (sSeq (sDrop (callD 3 m_check_counts [] (oCons (pE (eC (.str "lengths"))) (oCons (pE (eVar 1)) (oCons (pE (eCall lenD (oCons (pV 0) (oNil)))) (oNil))))))
 (sSeq (sDrop (callD 1 m_check_whole [] (oCons (pE (eVar 2)) (oNil))))
 (sSeq (sDrop (callD 2 m_check_notices [] (oCons (pE (eVar 3)) (oCons (pE (eCall lenD (oCons (pV 0) (oNil)))) (oNil)))))
 (sSeq (sSetN 4 (nLst (aNil)))
 (sSeq (sFor (iEnum (eVar 0)) (gT 2 (gsCons (gN 5) (gsCons (gN 6) (gsNil))))
  (sSeq (sSet 7 (eIf (tB (eOp2 eqD (pV 5) (pE (eC (.int 0))))) (eVar 6) (callD 3 m_turned_begin [] (oCons (pE (eVar 6)) (oCons (pE (eOp2 ixD (pE (eOp2 ixD (pV 4) (pE (eOp1 negD (pE (eC (.int 1))))))) (pE (eC (.int 1))))) (oCons (pE (eVar 2)) (oNil)))))))
  (sIf (wOr (tB (eOp2 isD (pE (eOp2 ixD (pV 3) (pV 5))) (pE (eC .non)))) (tB (eOp2 eqD (pE (eOp2 plusD (pV 5) (pE (eC (.int 1))))) (pE (eCall lenD (oCons (pV 0) (oNil)))))))
   (sDrop (cellM 4 gApp (aCons (fz (nTup (aCons (eVar 7) (aCons (callD 2 m_moment_sum [] (oCons (pE (eVar 7)) (oCons (pE (eOp2 ixD (pV 1) (pV 5))) (oNil)))) (aNil))))) (aNil))))
   (sDrop (cellM 4 gApp (aCons (fz (nTup (aCons (eVar 7) (aCons (callD 4 m_early_end [] (oCons (pE (eVar 7)) (oCons (pE (eOp2 ixD (pV 1) (pV 5))) (oCons (pE (eOp2 ixD (pV 3) (pV 5))) (oCons (pE (eOp2 ixD (pV 0) (pE (eOp2 plusD (pV 5) (pE (eC (.int 1))))))) (oNil)))))) (aNil))))) (aNil)))))))
 (sRetV 4)))))))
def m__law_room_rises : Mir := runFn 11 3 (sSeq (sSetN 3 (nComp (iSeq (eVar 1)) (gN 10) (tYesB) (callD 2 m__law_one [] (oCons (pV 0) (oCons (pE (fz (nLst (aCons (eC .non) (aCons (eC (.int 0)) (aCons (eC (.int 1)) (aCons (eC (.int 5)) (aNil)))))))) (oNil)))) [10]))
 (sSeq (sPar [4, 5] (mD (callD 2 m__law_take [] (oCons (pV 0) (oCons (pE (eC (.int 4))) (oNil)))) (mD (callD 2 m__law_take [] (oCons (pV 0) (oCons (pE (eCall lenD (oCons (pV 1) (oNil)))) (oNil)))) (mNil))))
 (sSeq (sSet 6 (callD 4 m_room_row [] (oCons (pE (eVar 1)) (oCons (pE (eVar 2)) (oCons (pE (eVar 4)) (oCons (pE (eVar 3)) (oNil)))))))
 (sSeq (sSetN 7 (nLst (aCons (callD 4 m_room_row [] (oCons (pE (callD 3 m__law_raised [] (oCons (pV 0) (oCons (pE (eVar 1)) (oCons (pE (eVar 5)) (oNil)))))) (oCons (pE (eVar 2)) (oCons (pE (eVar 4)) (oCons (pE (eVar 3)) (oNil)))))) (aNil))))
 (sSeq (sDrop (cellM 7 gApp (aCons (callD 4 m_room_row [] (oCons (pE (eVar 1)) (oCons (pE (callD 3 m__law_raised [] (oCons (pV 0) (oCons (pE (eVar 2)) (oCons (pE (eVar 5)) (oNil)))))) (oCons (pE (eVar 4)) (oCons (pE (eVar 3)) (oNil)))))) (aNil))))
 (sSeq (sDrop (cellM 7 gApp (aCons (callD 4 m_room_row [] (oCons (pE (eVar 1)) (oCons (pE (eVar 2)) (oCons (pE (eOp2 plusD (pV 4) (pE (eC (.int 2))))) (oCons (pE (eVar 3)) (oNil)))))) (aNil))))
 (sSeq (sDrop (cellM 7 gApp (aCons (callD 4 m_room_row [] (oCons (pE (eVar 1)) (oCons (pE (eVar 2)) (oCons (pE (eVar 4)) (oCons (pE (callD 3 m__law_raised [] (oCons (pV 0) (oCons (pE (eVar 3)) (oCons (pE (eVar 5)) (oNil)))))) (oNil)))))) (aNil))))
 (sSeq (sFor (iSeq (eVar 7)) (gN 8)
  (sIf (wNot (tTr (pE (callD 2 m__law_none_earlier [] (oCons (pE (eVar 6)) (oCons (pE (eVar 8)) (oNil)))))))
   (sRet (eC (.bl false)))
   (sNx)))
 (sSeq (sSet 9 (callD 4 m_room_row [] (oCons (pE (fz (nSl (pV 1) (oNone) (oPart (pV 5))))) (oCons (pE (fz (nSl (pV 2) (oNone) (oPart (pV 5))))) (oCons (pE (eVar 4)) (oCons (pE (fz (nSl (pV 3) (oNone) (oPart (pV 5))))) (oNil)))))))
 (sRet (eAnd (eOp2 eqD (pE (fz (nComp (iSeq (eVar 9)) (gN 10) (tYesB) (eOp2 ixD (pV 10) (pE (eC (.int 0)))) [10]))) (pE (fz (nComp (iSeq (fz (nSl (pV 6) (oNone) (oPart (pV 5))))) (gN 10) (tYesB) (eOp2 ixD (pV 10) (pE (eC (.int 0)))) [10])))) (eOp2 eqD (pE (fz (nSl (pV 9) (oNone) (oPart (pE (eOp1 negD (pE (eC (.int 1))))))))) (pE (fz (nSl (pV 6) (oNone) (oPart (pE (eCall maxD (oCons (pE (eC (.int 0))) (oCons (pE (eOp2 subD (pE (eCall intD (oCons (pV 5) (oNil)))) (pE (eC (.int 1))))) (oNil)))))))))))))))))))))
def m_law : Mir := runFn 7 1 (sSeq (sFor (iSeq (callD 1 m__law_rounds [] (oCons (pE (eVar 0)) (oNil)))) (gN 1)
  (sSeq (sSetN 2 (callN 2 m__law_pool [] (oCons (pE (eVar 0)) (oCons (pE (eVar 1)) (oNil)))))
  (sSeq (sSetN 3 (nComp (iRange1 (pE (eOp2 plusD (pE (eC (.int 1))) (pE (callD 2 m__law_take [] (oCons (pV 2) (oCons (pE (eC (.int 6))) (oNil)))))))) (gN 5) (tYesB) (callD 2 m__law_moment [] (oCons (pV 2) (oCons (pE (callD 2 m__law_one [] (oCons (pV 2) (oCons (pE (fz (nLst (aCons (eC (.int 4)) (aCons (eC (.int 20)) (aNil)))))) (oNil))))) (oNil)))) [5]))
  (sSeq (sSetN 4 (nComp (iSeq (eVar 3)) (gN 6) (tYesB) (callD 2 m__law_one [] (oCons (pV 2) (oCons (pE (fz (nLst (aCons (eC (.int 0)) (aCons (eC (.int 1)) (aCons (eC (.int 3)) (aCons (eC (.int 8)) (aNil)))))))) (oNil)))) [6]))
  (sSeq (sIf (wNot (tTr (pE (callD 4 m__law_counter_rises [] (oCons (pV 2) (oCons (pE (eVar 3)) (oCons (pE (eVar 4)) (oCons (pE (callD 1 m__law_spans [] (oCons (pV 2) (oNil)))) (oNil)))))))))
   (sRet (eC (.bl false)))
   (sNx))
  (sIf (wOr (wNot (tTr (pE (callD 2 m__law_meeting_rises [] (oCons (pV 2) (oCons (pE (eVar 3)) (oNil))))))) (wNot (tTr (pE (callD 3 m__law_room_rises [] (oCons (pV 2) (oCons (pE (eVar 3)) (oCons (pE (eVar 4)) (oNil)))))))))
   (sRet (eC (.bl false)))
   (sNx)))))))
 (sRet (eC (.bl true))))
/-- what the top has written -/
structure Txt (K : PySem.W.Frag) (mg : Str → Option Value) : Prop where
  isi : Isi K mg insts asked ownT
  n_all : mg "all" = none
  n_any : mg "any" = none
  n_bool : mg "bool" = none
  n_enumerate : mg "enumerate" = none
  n_int : mg "int" = none
  n_len : mg "len" = none
  n_list : mg "list" = none
  n_max : mg "max" = none
  n_min : mg "min" = none
  n_range : mg "range" = none
  n_sorted : mg "sorted" = none
  n_tuple : mg "tuple" = none
  n_zip : mg "zip" = none
  c_DESKS_AT_MOST : ∃ t, mg "DESKS_AT_MOST" = some (.int 3 t)
  c_MOST_MINUTE : ∃ t, mg "MOST_MINUTE" = some (.int 9999 t)
  c_MOST_SPANS : ∃ t, mg "MOST_SPANS" = some (.int 4 t)
  f_own_spans : FldOk K mg ["Hours"] "own_spans"
  k_Hours : ∃ c, mg "Hours" = some (.ref c)
section
variable {P : Program} {w : World} {K : PySem.W.Frag} {mg : Str → Option Value} {base : Heap}
abbrev N__law_rounds : List Str := ["_law_script"]
theorem sc__law_rounds : FnScope N__law_rounds ["_law_script"] (defScope s__law_rounds) := ⟨rfl, rfl, rfl, by decide +kernel, rfl, by decide +kernel, by decide +kernel⟩
theorem ok__law_rounds {f : Addr} {fd : FuncData} (F : Fun K "_law_rounds" "_law_rounds" s__law_rounds f fd) (T : Txt K mg)  : FnOk P w K mg base (L2.CX P w) 1 f fd ["_law_script"] (spD K mg 1 m__law_rounds) :=
 fn_make (k := 0) F sc__law_rounds (by decide) fun cdv A outer s H E hr tk =>
 dss_one (ds_retO (ne_listRg1 rfl T.n_list T.n_range (oe (de_callB (call_max2 rfl) c_max (by rfl) T.n_max boot_max (oa_cons (oe (de_int)) (oa_cons (oe (de_callB (call_min2 rfl) c_min (by rfl) T.n_min boot_min (oa_cons (oe (de_callB call_len c_len (by rfl) T.n_len PySem.boot_len (oa_cons (oe_var 0) (oa_nil)))) (oa_cons (oe (de_int)) (oa_nil))))) (oa_nil)))))))
abbrev N__law_pool : List Str := ["_law_script", "_law_k", "_law_cell", "_law_big", "_law_mixed"]
theorem sc__law_pool : FnScope N__law_pool ["_law_script", "_law_k"] (defScope s__law_pool) := ⟨rfl, rfl, rfl, by decide +kernel, rfl, by decide +kernel, by decide +kernel⟩
theorem ok__law_pool {f : Addr} {fd : FuncData} (F : Fun K "_law_pool" "_law_pool" s__law_pool f fd) (T : Txt K mg)  : FnOk P w K mg base (L2.CX P w) 1 f fd ["_law_script", "_law_k"] (spD K mg 2 m__law_pool) :=
 fn_make (k := 0) F sc__law_pool (by decide) fun cdv A outer s H E hr tk =>
 dss_cons (ds_set (i := 2) (de_int) sc__law_pool.nd rfl (Or.inl rfl))
 (dss_cons (ds_if (dt_cmp op_lt o2_lt (oe_var 1) (oe (de_callB call_len c_len (by rfl) T.n_len PySem.boot_len (oa_cons (oe_var 0) (oa_nil)))) (nomark _))
  (dss_one (ds_set (i := 2) (de_ix ix_seq o2_ix (oe_var 0) (oe_var 1)) sc__law_pool.nd rfl (Or.inl rfl)))
  (dss_nil))
 (dss_cons (ds_set (i := 3) (de_callB (call_max2 rfl) c_max (by rfl) T.n_max boot_max (oa_cons (oe (de_callTy call_int1 c_int (by rfl) T.n_int boot_int (oa_cons (oe_var 2) (oa_nil)))) (oa_cons (oe (de_callTy call_int1 c_int (by rfl) T.n_int boot_int (oa_cons (oe (de_bin op_sub o2_sub (oe (de_un un_neg o1_neg (oe (de_int)))) (oe_var 2))) (oa_nil)))) (oa_nil)))) sc__law_pool.nd rfl (Or.inl rfl))
 (dss_cons (ds_set (i := 4) (de_bin op_mod o2_mod (oe (de_callTy call_int1 c_int (by rfl) T.n_int boot_int (oa_cons (oe (de_bin op_mul o2_mul (oe (de_plus (oe (de_plus (oe (de_plus (oe (de_bin op_mod o2_mod (oe (de_callTy call_int1 c_int (by rfl) T.n_int boot_int (oa_cons (oe_var 3) (oa_nil)))) (oe (de_int)))) (oe (de_bin op_mul o2_mul (oe (de_bin op_mul o2_mul (oe (de_int)) (oe_var 1))) (oe_var 1))))) (oe (de_bin op_mul o2_mul (oe (de_int)) (oe_var 1))))) (oe (de_int)))) (oe (de_int)))) (oa_nil)))) (oe (de_int))) sc__law_pool.nd rfl (Or.inl rfl))
 (dss_one (ds_retO (ne_lst (da_cons (de_bin op_mul o2_mul (oe_var 3) (oe (de_callTy call_int1 c_int (by rfl) T.n_int boot_int (oa_cons (oe (de_cmp op_ge o2_ge (oe_var 3) (oe (de_bin op_pow o2_pow (oe (de_int)) (oe (de_int)))) (nomark _))) (oa_nil))))) (da_cons (de_var 4) (da_nil)))))))))
abbrev N__law_take : List Str := ["_law_source", "_law_top", "_law_digit"]
theorem sc__law_take : FnScope N__law_take ["_law_source", "_law_top"] (defScope s__law_take) := ⟨rfl, rfl, rfl, by decide +kernel, rfl, by decide +kernel, by decide +kernel⟩
theorem ok__law_take {f : Addr} {fd : FuncData} (F : Fun K "_law_take" "_law_take" s__law_take f fd) (T : Txt K mg)  : FnOk P w K mg base (L2.CX P w) 1 f fd ["_law_source", "_law_top"] (spD K mg 2 m__law_take) :=
 fn_make (k := 0) F sc__law_take (by decide) fun cdv A outer s H E hr tk =>
 dss_cons (ds_if (dt_cmp op_gt o2_gt (oe (de_ix ix_seq o2_ix (oe_var 0) (oe (de_int)))) (oe (de_int)) (nomark _))
  (dss_cons (ds_set (i := 2) (de_bin op_mod o2_mod (oe (de_callTy call_int1 c_int (by rfl) T.n_int boot_int (oa_cons (oe (de_ix ix_seq o2_ix (oe_var 0) (oe (de_int)))) (oa_nil)))) (oe_var 1)) sc__law_take.nd rfl (Or.inl rfl))
  (dss_cons (ds_putIx (i := 0) (pv 0) rfl (de_bin op_fdiv o2_fdiv (oe (de_ix ix_seq o2_ix (oe_var 0) (oe (de_int)))) (oe_var 1)) (de_int))
  (dss_one (ds_retx (i := 2)))))
  (dss_nil))
 (dss_cons (ds_putIx (i := 0) (pv 0) rfl (de_bin op_mod o2_mod (oe (de_callTy call_int1 c_int (by rfl) T.n_int boot_int (oa_cons (oe (de_plus (oe (de_bin op_mul o2_mul (oe (de_ix ix_seq o2_ix (oe_var 0) (oe (de_int)))) (oe (de_int)))) (oe (de_int)))) (oa_nil)))) (oe (de_int))) (de_int))
 (dss_one (ds_ret (de_bin op_mod o2_mod (oe (de_callTy call_int1 c_int (by rfl) T.n_int boot_int (oa_cons (oe (de_bin op_fdiv o2_fdiv (oe (de_bin op_mod o2_mod (oe (de_callTy call_int1 c_int (by rfl) T.n_int boot_int (oa_cons (oe (de_bin op_mul o2_mul (oe (de_ix ix_seq o2_ix (oe_var 0) (oe (de_int)))) (oe (de_ix ix_seq o2_ix (oe_var 0) (oe (de_int)))))) (oa_nil)))) (oe (de_int)))) (oe (de_int)))) (oa_nil)))) (oe_var 1)))))
abbrev N__law_moment : List Str := ["_law_source", "_law_most"]
theorem sc__law_moment : FnScope N__law_moment ["_law_source", "_law_most"] (defScope s__law_moment) := ⟨rfl, rfl, rfl, by decide +kernel, rfl, by decide +kernel, by decide +kernel⟩
theorem ok__law_moment {f : Addr} {fd : FuncData} (F : Fun K "_law_moment" "_law_moment" s__law_moment f fd) (T : Txt K mg) (h__law_take : Fnd P w K mg base "_law_take" 1 2 m__law_take []) : FnOk P w K mg base (L2.CX P w) 2 f fd ["_law_source", "_law_most"] (spD K mg 2 m__law_moment) :=
 fn_make (k := 1) F sc__law_moment (by decide) fun cdv A outer s H E hr tk =>
 dss_one (ds_ret (de_if (dt_cmp (op_eqD hr.units) o2_eq (oe (de_call h__law_take (hr.mono (by decide)) tk (oa_cons (oe_var 0) (oa_cons (oe (de_int)) (oa_nil))))) (oe (de_int)) (nomark _)) (de_non) (de_call h__law_take (hr.mono (by decide)) tk (oa_cons (oe_var 0) (oa_cons (oe (de_var 1)) (oa_nil))))))
abbrev N__law_one : List Str := ["_law_source", "_law_things"]
theorem sc__law_one : FnScope N__law_one ["_law_source", "_law_things"] (defScope s__law_one) := ⟨rfl, rfl, rfl, by decide +kernel, rfl, by decide +kernel, by decide +kernel⟩
theorem ok__law_one {f : Addr} {fd : FuncData} (F : Fun K "_law_one" "_law_one" s__law_one f fd) (T : Txt K mg) (h__law_take : Fnd P w K mg base "_law_take" 1 2 m__law_take []) : FnOk P w K mg base (L2.CX P w) 2 f fd ["_law_source", "_law_things"] (spD K mg 2 m__law_one) :=
 fn_make (k := 1) F sc__law_one (by decide) fun cdv A outer s H E hr tk =>
 dss_one (ds_ret (de_ix ix_seq o2_ix (oe_var 1) (oe (de_call h__law_take (hr.mono (by decide)) tk (oa_cons (oe_var 0) (oa_cons (oe (de_callB call_len c_len (by rfl) T.n_len PySem.boot_len (oa_cons (oe_var 1) (oa_nil)))) (oa_nil)))))))
abbrev N_is_list : List Str := ["value"]
theorem sc_is_list : FnScope N_is_list ["value"] (defScope s_is_list) := ⟨rfl, rfl, rfl, by decide +kernel, rfl, by decide +kernel, by decide +kernel⟩
theorem ok_is_list {f : Addr} {fd : FuncData} (F : Fun K "is_list" "is_list" s_is_list f fd) (T : Txt K mg)  : FnOk P w K mg base (L2.CX P w) 1 f fd ["value"] (spD K mg 1 m_is_list) :=
 fn_make (k := 0) F sc_is_list (by decide) fun cdv A outer s H E hr tk =>
 dss_one (ds_ret (de_isiT T.isi (oe_var 0) ⟨ty_b (b := .lst) T.n_list boot_list rfl, rfl, ty_b (b := .tup) T.n_tuple boot_tuple rfl, rfl, trivial⟩ (by decide)))
abbrev N_is_integer : List Str := ["value"]
theorem sc_is_integer : FnScope N_is_integer ["value"] (defScope s_is_integer) := ⟨rfl, rfl, rfl, by decide +kernel, rfl, by decide +kernel, by decide +kernel⟩
theorem ok_is_integer {f : Addr} {fd : FuncData} (F : Fun K "is_integer" "is_integer" s_is_integer f fd) (T : Txt K mg)  : FnOk P w K mg base (L2.CX P w) 1 f fd ["value"] (spD K mg 1 m_is_integer) :=
 fn_make (k := 0) F sc_is_integer (by decide) fun cdv A outer s H E hr tk =>
 dss_one (ds_ret (de_and (de_isi T.isi (oe_var 0) (ty_b (b := .int) T.n_int boot_int rfl)) (de_one (de_not (oe (de_isi T.isi (oe_var 0) (ty_b (b := .bl) T.n_bool boot_bool rfl)))))))
abbrev N_is_between : List Str := ["value", "least", "most"]
theorem sc_is_between : FnScope N_is_between ["value", "least", "most"] (defScope s_is_between) := ⟨rfl, rfl, rfl, by decide +kernel, rfl, by decide +kernel, by decide +kernel⟩
theorem ok_is_between {f : Addr} {fd : FuncData} (F : Fun K "is_between" "is_between" s_is_between f fd) (T : Txt K mg) (h_is_integer : Fnd P w K mg base "is_integer" 1 1 m_is_integer []) : FnOk P w K mg base (L2.CX P w) 2 f fd ["value", "least", "most"] (spD K mg 3 m_is_between) :=
 fn_make (k := 1) F sc_is_between (by decide) fun cdv A outer s H E hr tk =>
 dss_one (ds_ret (de_and (de_call h_is_integer (hr.mono (by decide)) tk (oa_cons (oe (de_var 0)) (oa_nil))) (de_one ((de_chain op_le op_le o2_le o2_le (oe_var 1) (oe_var 0) (oe_var 2)).1))))
abbrev N_is_minute : List Str := ["value"]
theorem sc_is_minute : FnScope N_is_minute ["value"] (defScope s_is_minute) := ⟨rfl, rfl, rfl, by decide +kernel, rfl, by decide +kernel, by decide +kernel⟩
theorem ok_is_minute {f : Addr} {fd : FuncData} (F : Fun K "is_minute" "is_minute" s_is_minute f fd) (T : Txt K mg) (h_is_between : Fnd P w K mg base "is_between" 2 3 m_is_between []) : FnOk P w K mg base (L2.CX P w) 3 f fd ["value"] (spD K mg 1 m_is_minute) :=
 fn_make (k := 2) F sc_is_minute (by decide) fun cdv A outer s H E hr tk =>
 dss_one (ds_ret (de_call h_is_between (hr.mono (by decide)) tk (oa_cons (oe (de_var 0)) (oa_cons (oe (de_int)) (oa_cons (oe (de_gint T.c_MOST_MINUTE)) (oa_nil))))))
abbrev N_is_span : List Str := ["value"]
theorem sc_is_span : FnScope N_is_span ["value"] (defScope s_is_span) := ⟨rfl, rfl, rfl, by decide +kernel, rfl, by decide +kernel, by decide +kernel⟩
theorem ok_is_span {f : Addr} {fd : FuncData} (F : Fun K "is_span" "is_span" s_is_span f fd) (T : Txt K mg) (h_is_minute : Fnd P w K mg base "is_minute" 3 1 m_is_minute []) : FnOk P w K mg base (L2.CX P w) 4 f fd ["value"] (spD K mg 1 m_is_span) :=
 fn_make (k := 3) F sc_is_span (by decide) fun cdv A outer s H E hr tk =>
 dss_cons (ds_if (dt_w (dw_or (dt_not (dt_tru (oe (de_isi T.isi (oe_var 0) (ty_b (b := .tup) T.n_tuple boot_tuple rfl))))) (dw_or1 (dt_cmp (op_neD hr.units) o2_ne (oe (de_callB call_len c_len (by rfl) T.n_len PySem.boot_len (oa_cons (oe_var 0) (oa_nil)))) (oe (de_int)) (nomark _)))))
  (dss_one (ds_ret (de_bl)))
  (dss_nil))
 (dss_one (ds_ret (de_and (de_call h_is_minute (hr.mono (by decide)) tk (oa_cons (oe (de_ix ix_seq o2_ix (oe_var 0) (oe (de_int)))) (oa_nil))) (de_and (de_call h_is_minute (hr.mono (by decide)) tk (oa_cons (oe (de_ix ix_seq o2_ix (oe_var 0) (oe (de_int)))) (oa_nil))) (de_one (de_cmp op_le o2_le (oe (de_ix ix_seq o2_ix (oe_var 0) (oe (de_int)))) (oe (de_ix ix_seq o2_ix (oe_var 0) (oe (de_int)))) (nomark _)))))))
abbrev N_is_hours : List Str := ["value", "span", "behind"]
theorem sc_is_hours : FnScope N_is_hours ["value"] (defScope s_is_hours) := ⟨rfl, rfl, rfl, by decide +kernel, rfl, by decide +kernel, by decide +kernel⟩
theorem ok_is_hours {f : Addr} {fd : FuncData} (F : Fun K "is_hours" "is_hours" s_is_hours f fd) (T : Txt K mg) (h_is_span : Fnd P w K mg base "is_span" 4 1 m_is_span []) (h_is_list : Fnd P w K mg base "is_list" 1 1 m_is_list []) : FnOk P w K mg base (L2.CX P w) 5 f fd ["value"] (spD K mg 1 m_is_hours) :=
 fn_make (k := 4) F sc_is_hours (by decide) fun cdv A outer s H E hr tk =>
 dss_cons (ds_if (dt_cmp op_isN o2_is (oe_var 0) (oe (de_non)) (nomark _))
  (dss_one (ds_ret (de_bl)))
  (dss_nil))
 (dss_cons (ds_if (dt_w (dw_or (dt_not (dt_tru (oe (de_call h_is_list (hr.mono (by decide)) tk (oa_cons (oe (de_var 0)) (oa_nil)))))) (dw_or (dt_cmp op_gt o2_gt (oe (de_callB call_len c_len (by rfl) T.n_len PySem.boot_len (oa_cons (oe_var 0) (oa_nil)))) (oe (de_gint T.c_MOST_SPANS)) (nomark _)) (dw_or1 (dt_not (dt_tru (oe (de_callB (cr_all rfl) c_all (by rfl) T.n_all boot_all (oa_cons (oe (de_fz (ne_lc rfl sc_is_hours.nd (di_seq (de_var 0)) (blkOk_by (N := N_is_hours) (sc := defScope s_is_hours) (own := [("span", 1)]) (by decide +kernel)) rfl (fun _ _ _ _ _ => dg_name (i := 1) sc_is_hours.nd rfl (Or.inl rfl)) (fun _ _ _ _ _ => de_call h_is_span (hr.mono (by decide)) takes0 (oa_cons (oe (de_var 1)) (oa_nil)))))) (oa_nil))))))))))
  (dss_one (ds_ret (de_bl)))
  (dss_nil))
 (dss_one (ds_ret (de_callB (cr_all rfl) c_all (by rfl) T.n_all boot_all (oa_cons (oe (de_fz (ne_lc rfl sc_is_hours.nd (di_zip (by rfl) T.n_zip (de_var 0) (de_fz (ne_slice (oe_var 0) (pt_some (oe (de_int))) (pt_none)))) (blkOk_by (N := N_is_hours) (sc := defScope s_is_hours) (own := [("span", 1), ("behind", 2)]) (by decide +kernel)) rfl (fun _ _ _ _ _ => dg_tup rfl (dgs_cons (dg_name (i := 1) sc_is_hours.nd rfl (Or.inl rfl)) (dgs_cons (dg_name (i := 2) sc_is_hours.nd rfl (Or.inl rfl)) (dgs_nil)))) (fun _ _ _ _ _ => de_cmp op_lt o2_lt (oe (de_ix ix_seq o2_ix (oe_var 1) (oe (de_int)))) (oe (de_ix ix_seq o2_ix (oe_var 2) (oe (de_int)))) (nomark _))))) (oa_nil))))))
abbrev N_Hours___init__ : List Str := ["self", "spans"]
theorem sc_Hours___init__ : FnScope N_Hours___init__ ["self", "spans"] (defScope s_Hours___init__) := ⟨rfl, rfl, rfl, by decide +kernel, rfl, by decide +kernel, by decide +kernel⟩
theorem ok_Hours___init__ {f : Addr} {fd : FuncData} {dvs : List V} (F : FunD K "__init__" "Hours.__init__" (defArgs s_Hours___init__) (defBody s_Hours___init__) (defScope s_Hours___init__) dvs [] f fd) (T : Txt K mg) (h_is_hours : Fnd P w K mg base "is_hours" 5 1 m_is_hours []) : FnOk P w K mg base (L2.CX P w) 6 f fd ["self", "spans"] (spD K mg 2 m_Hours___init__) :=
 fn_makeD (k := 5) F sc_Hours___init__ (by decide) fun cdv A outer s H E hr tk =>
 dss_cons (ds_if (dt_not (dt_tru (oe (de_call h_is_hours (hr.mono (by decide)) tk (oa_cons (oe (de_var 1)) (oa_nil))))))
  (dss_one (ds_never))
  (dss_nil))
 (dss_one (ds_fld (i := 0) T.f_own_spans (pv 0) rfl (de_if (dt_cmp op_isN o2_is (oe_var 1) (oe (de_non)) (nomark _)) (de_non) (de_fz (ne_callTy call_tuple_of c_tuple (by rfl) T.n_tuple boot_tuple (oa_cons (oe_var 1) (oa_nil)))))))
abbrev N_is_count : List Str := ["value"]
theorem sc_is_count : FnScope N_is_count ["value"] (defScope s_is_count) := ⟨rfl, rfl, rfl, by decide +kernel, rfl, by decide +kernel, by decide +kernel⟩
theorem ok_is_count {f : Addr} {fd : FuncData} (F : Fun K "is_count" "is_count" s_is_count f fd) (T : Txt K mg) (h_is_integer : Fnd P w K mg base "is_integer" 1 1 m_is_integer []) : FnOk P w K mg base (L2.CX P w) 2 f fd ["value"] (spD K mg 1 m_is_count) :=
 fn_make (k := 1) F sc_is_count (by decide) fun cdv A outer s H E hr tk =>
 dss_one (ds_ret (de_and (de_call h_is_integer (hr.mono (by decide)) tk (oa_cons (oe (de_var 0)) (oa_nil))) (de_one (de_cmp op_ge o2_ge (oe_var 0) (oe (de_int)) (nomark _)))))
abbrev N_is_moment : List Str := ["value"]
theorem sc_is_moment : FnScope N_is_moment ["value"] (defScope s_is_moment) := ⟨rfl, rfl, rfl, by decide +kernel, rfl, by decide +kernel, by decide +kernel⟩
theorem ok_is_moment {f : Addr} {fd : FuncData} (F : Fun K "is_moment" "is_moment" s_is_moment f fd) (T : Txt K mg) (h_is_count : Fnd P w K mg base "is_count" 2 1 m_is_count []) : FnOk P w K mg base (L2.CX P w) 3 f fd ["value"] (spD K mg 1 m_is_moment) :=
 fn_make (k := 2) F sc_is_moment (by decide) fun cdv A outer s H E hr tk =>
 dss_one (ds_ret (de_or (de_cmp op_isN o2_is (oe_var 0) (oe (de_non)) (nomark _)) (de_one (de_call h_is_count (hr.mono (by decide)) tk (oa_cons (oe (de_var 0)) (oa_nil))))))
abbrev N_check_moments : List Str := ["word", "value", "one"]
theorem sc_check_moments : FnScope N_check_moments ["word", "value"] (defScope s_check_moments) := ⟨rfl, rfl, rfl, by decide +kernel, rfl, by decide +kernel, by decide +kernel⟩
theorem ok_check_moments {f : Addr} {fd : FuncData} (F : Fun K "check_moments" "check_moments" s_check_moments f fd) (T : Txt K mg) (h_is_moment : Fnd P w K mg base "is_moment" 3 1 m_is_moment []) (h_is_list : Fnd P w K mg base "is_list" 1 1 m_is_list []) : FnOk P w K mg base (L2.CX P w) 4 f fd ["word", "value"] (spD K mg 2 m_check_moments) :=
 fn_make (k := 3) F sc_check_moments (by decide) fun cdv A outer s H E hr tk =>
 dss_one (ds_if (dt_w (dw_or (dt_not (dt_tru (oe (de_call h_is_list (hr.mono (by decide)) tk (oa_cons (oe (de_var 1)) (oa_nil)))))) (dw_or1 (dt_not (dt_tru (oe (de_callB (cr_all rfl) c_all (by rfl) T.n_all boot_all (oa_cons (oe (de_fz (ne_lc rfl sc_check_moments.nd (di_seq (de_var 1)) (blkOk_by (N := N_check_moments) (sc := defScope s_check_moments) (own := [("one", 2)]) (by decide +kernel)) rfl (fun _ _ _ _ _ => dg_name (i := 2) sc_check_moments.nd rfl (Or.inl rfl)) (fun _ _ _ _ _ => de_call h_is_moment (hr.mono (by decide)) takes0 (oa_cons (oe (de_var 2)) (oa_nil)))))) (oa_nil)))))))))
  (dss_one (ds_never))
  (dss_nil))
abbrev N_check_counts : List Str := ["word", "value", "many", "one"]
theorem sc_check_counts : FnScope N_check_counts ["word", "value", "many"] (defScope s_check_counts) := ⟨rfl, rfl, rfl, by decide +kernel, rfl, by decide +kernel, by decide +kernel⟩
theorem ok_check_counts {f : Addr} {fd : FuncData} (F : Fun K "check_counts" "check_counts" s_check_counts f fd) (T : Txt K mg) (h_is_count : Fnd P w K mg base "is_count" 2 1 m_is_count []) (h_is_list : Fnd P w K mg base "is_list" 1 1 m_is_list []) : FnOk P w K mg base (L2.CX P w) 3 f fd ["word", "value", "many"] (spD K mg 3 m_check_counts) :=
 fn_make (k := 2) F sc_check_counts (by decide) fun cdv A outer s H E hr tk =>
 dss_one (ds_if (dt_w (dw_or (dt_not (dt_tru (oe (de_call h_is_list (hr.mono (by decide)) tk (oa_cons (oe (de_var 1)) (oa_nil)))))) (dw_or (dt_cmp (op_neD hr.units) o2_ne (oe (de_callB call_len c_len (by rfl) T.n_len PySem.boot_len (oa_cons (oe_var 1) (oa_nil)))) (oe_var 2) (nomark _)) (dw_or1 (dt_not (dt_tru (oe (de_callB (cr_all rfl) c_all (by rfl) T.n_all boot_all (oa_cons (oe (de_fz (ne_lc rfl sc_check_counts.nd (di_seq (de_var 1)) (blkOk_by (N := N_check_counts) (sc := defScope s_check_counts) (own := [("one", 3)]) (by decide +kernel)) rfl (fun _ _ _ _ _ => dg_name (i := 3) sc_check_counts.nd rfl (Or.inl rfl)) (fun _ _ _ _ _ => de_call h_is_count (hr.mono (by decide)) takes0 (oa_cons (oe (de_var 3)) (oa_nil)))))) (oa_nil))))))))))
  (dss_one (ds_never))
  (dss_nil))
abbrev N_check_desks : List Str := ["desks"]
theorem sc_check_desks : FnScope N_check_desks ["desks"] (defScope s_check_desks) := ⟨rfl, rfl, rfl, by decide +kernel, rfl, by decide +kernel, by decide +kernel⟩
theorem ok_check_desks {f : Addr} {fd : FuncData} (F : Fun K "check_desks" "check_desks" s_check_desks f fd) (T : Txt K mg) (h_is_between : Fnd P w K mg base "is_between" 2 3 m_is_between []) : FnOk P w K mg base (L2.CX P w) 3 f fd ["desks"] (spD K mg 1 m_check_desks) :=
 fn_make (k := 2) F sc_check_desks (by decide) fun cdv A outer s H E hr tk =>
 dss_one (ds_if (dt_not (dt_tru (oe (de_call h_is_between (hr.mono (by decide)) tk (oa_cons (oe (de_var 0)) (oa_cons (oe (de_int)) (oa_cons (oe (de_gint T.c_DESKS_AT_MOST)) (oa_nil))))))))
  (dss_one (ds_never))
  (dss_nil))
abbrev N_check_hours : List Str := ["hours"]
theorem sc_check_hours : FnScope N_check_hours ["hours"] (defScope s_check_hours) := ⟨rfl, rfl, rfl, by decide +kernel, rfl, by decide +kernel, by decide +kernel⟩
theorem ok_check_hours {f : Addr} {fd : FuncData} (F : Fun K "check_hours" "check_hours" s_check_hours f fd) (T : Txt K mg)  : FnOk P w K mg base (L2.CX P w) 1 f fd ["hours"] (spD K mg 1 m_check_hours) :=
 fn_make (k := 0) F sc_check_hours (by decide) fun cdv A outer s H E hr tk =>
 dss_one (ds_if (dt_not (dt_tru (oe (de_isi T.isi (oe_var 0) (ty_own T.k_Hours)))))
  (dss_one (ds_never))
  (dss_nil))
abbrev N_Hours_gate_at : List Str := ["self", "n", "t", "first", "last", "begin"]
theorem sc_Hours_gate_at : FnScope N_Hours_gate_at ["self", "n", "t"] (defScope s_Hours_gate_at) := ⟨rfl, rfl, rfl, by decide +kernel, rfl, by decide +kernel, by decide +kernel⟩
theorem ok_Hours_gate_at {f : Addr} {fd : FuncData} (F : Fun K "gate_at" "Hours.gate_at" s_Hours_gate_at f fd) (T : Txt K mg)  : FnOk P w K mg base (L2.CX P w) 1 f fd ["self", "n", "t"] (spD K mg 3 m_Hours_gate_at) :=
 fn_make (k := 0) F sc_Hours_gate_at (by decide) fun cdv A outer s H E hr tk =>
 dss_cons (ds_if (dt_w (dw_or (dt_cmp op_isN o2_is (oe_var 2) (oe (de_non)) (nomark _)) (dw_or1 (dt_cmp op_isN o2_is (oe (de_fld T.f_own_spans (oe_var 0))) (oe (de_non)) (nomark _)))))
  (dss_one (ds_retx (i := 2)))
  (dss_nil))
 (dss_cons (ds_for (passes_of rfl) rfl (di_seq (de_fld T.f_own_spans (oe_var 0))) (dg_tup rfl (dgs_cons (dg_name (i := 3) sc_Hours_gate_at.nd rfl (Or.inl rfl)) (dgs_cons (dg_name (i := 4) sc_Hours_gate_at.nd rfl (Or.inl rfl)) (dgs_nil))))
  (dss_cons (ds_set (i := 5) (de_if (dt_cmp op_lt o2_lt (oe_var 2) (oe_var 3) (nomark _)) (de_var 3) (de_var 2)) sc_Hours_gate_at.nd rfl (Or.inl rfl))
  (dss_one (ds_if (dt_cmp op_le o2_le (oe (de_plus (oe_var 5) (oe_var 1))) (oe_var 4) (nomark _))
   (dss_one (ds_retx (i := 5)))
   (dss_nil)))))
 (dss_one (ds_ret (de_non))))
abbrev N_latest_of : List Str := ["moments", "found", "one"]
theorem sc_latest_of : FnScope N_latest_of ["moments"] (defScope s_latest_of) := ⟨rfl, rfl, rfl, by decide +kernel, rfl, by decide +kernel, by decide +kernel⟩
theorem ok_latest_of {f : Addr} {fd : FuncData} (F : Fun K "latest_of" "latest_of" s_latest_of f fd) (T : Txt K mg)  : FnOk P w K mg base (L2.CX P w) 1 f fd ["moments"] (spD K mg 1 m_latest_of) :=
 fn_make (k := 0) F sc_latest_of (by decide) fun cdv A outer s H E hr tk =>
 dss_cons (ds_set (i := 1) (de_int) sc_latest_of.nd rfl (Or.inl rfl))
 (dss_cons (ds_for (passes_of rfl) rfl (di_seq (de_var 0)) (dg_name (i := 2) sc_latest_of.nd rfl (Or.inl rfl))
  (dss_cons (ds_if (dt_cmp op_isN o2_is (oe_var 2) (oe (de_non)) (nomark _))
   (dss_one (ds_ret (de_non)))
   (dss_nil))
  (dss_one (ds_set (i := 1) (de_if (dt_cmp op_lt o2_lt (oe_var 1) (oe_var 2) (nomark _)) (de_var 2) (de_var 1)) sc_latest_of.nd rfl (Or.inl rfl)))))
 (dss_one (ds_retx (i := 1))))
abbrev N_so_many_th : List Str := ["moments", "n", "told", "one"]
theorem sc_so_many_th : FnScope N_so_many_th ["moments", "n"] (defScope s_so_many_th) := ⟨rfl, rfl, rfl, by decide +kernel, rfl, by decide +kernel, by decide +kernel⟩
theorem ok_so_many_th {f : Addr} {fd : FuncData} (F : Fun K "so_many_th" "so_many_th" s_so_many_th f fd) (T : Txt K mg)  : FnOk P w K mg base (L2.CX P w) 1 f fd ["moments", "n"] (spD K mg 2 m_so_many_th) :=
 fn_make (k := 0) F sc_so_many_th (by decide) fun cdv A outer s H E hr tk =>
 dss_cons (ds_set (i := 2) (de_fz (ne_callB cr_sorted c_sorted (by rfl) T.n_sorted boot_sorted (oa_cons (oe (de_fz (ne_lcIf rfl sc_so_many_th.nd (di_seq (de_var 0)) (blkOk_by (N := N_so_many_th) (sc := defScope s_so_many_th) (own := [("one", 3)]) (by decide +kernel)) rfl (fun _ _ _ _ _ => dg_name (i := 3) sc_so_many_th.nd rfl (Or.inl rfl)) (fun _ _ _ _ _ => dt_cmp op_notN o2_isnt (oe_var 3) (oe (de_non)) (nomark _)) (fun _ _ _ _ _ => de_callTy call_int1 c_int (by rfl) T.n_int boot_int (oa_cons (oe_var 3) (oa_nil)))))) (oa_nil)))) sc_so_many_th.nd rfl (Or.inl rfl))
 (dss_one (ds_ret (de_if (dt_cmp op_le o2_le (oe_var 1) (oe (de_callB call_len c_len (by rfl) T.n_len PySem.boot_len (oa_cons (oe_var 2) (oa_nil)))) (nomark _)) (de_ix ix_seq o2_ix (oe_var 2) (oe (de_bin op_sub o2_sub (oe_var 1) (oe (de_int))))) (de_non))))
abbrev N_free_desk : List Str := ["ends", "desks"]
theorem sc_free_desk : FnScope N_free_desk ["ends", "desks"] (defScope s_free_desk) := ⟨rfl, rfl, rfl, by decide +kernel, rfl, by decide +kernel, by decide +kernel⟩
theorem ok_free_desk {f : Addr} {fd : FuncData} (F : Fun K "free_desk" "free_desk" s_free_desk f fd) (T : Txt K mg) (h_so_many_th : Fnd P w K mg base "so_many_th" 1 2 m_so_many_th []) : FnOk P w K mg base (L2.CX P w) 2 f fd ["ends", "desks"] (spD K mg 2 m_free_desk) :=
 fn_make (k := 1) F sc_free_desk (by decide) fun cdv A outer s H E hr tk =>
 dss_one (ds_ret (de_if (dt_cmp op_lt o2_lt (oe (de_callB call_len c_len (by rfl) T.n_len PySem.boot_len (oa_cons (oe_var 0) (oa_nil)))) (oe_var 1) (nomark _)) (de_int) (de_call h_so_many_th (hr.mono (by decide)) tk (oa_cons (oe (de_var 0)) (oa_cons (oe (de_plus (oe (de_bin op_sub o2_sub (oe (de_callB call_len c_len (by rfl) T.n_len PySem.boot_len (oa_cons (oe_var 0) (oa_nil)))) (oe_var 1))) (oe (de_int)))) (oa_nil))))))
abbrev N_desk_begin : List Str := ["arrival", "begin_ahead", "ends_ahead", "desks", "hours", "n"]
theorem sc_desk_begin : FnScope N_desk_begin ["arrival", "begin_ahead", "ends_ahead", "desks", "hours", "n"] (defScope s_desk_begin) := ⟨rfl, rfl, rfl, by decide +kernel, rfl, by decide +kernel, by decide +kernel⟩
theorem ok_desk_begin {f : Addr} {fd : FuncData} (F : Fun K "desk_begin" "desk_begin" s_desk_begin f fd) (T : Txt K mg) (h_free_desk : Fnd P w K mg base "free_desk" 2 2 m_free_desk []) (h_latest_of : Fnd P w K mg base "latest_of" 1 1 m_latest_of []) (h_Hours_gate_at : Mtd P w K mg base "Hours" "gate_at" 1 3 m_Hours_gate_at []) : FnOk P w K mg base (L2.CX P w) 3 f fd ["arrival", "begin_ahead", "ends_ahead", "desks", "hours", "n"] (spD K mg 6 m_desk_begin) :=
 fn_make (k := 2) F sc_desk_begin (by decide) fun cdv A outer s H E hr tk =>
 dss_one (ds_ret (de_meth h_Hours_gate_at (hr.mono (by decide)) tk (oe (de_var 4)) (oa_cons (oe (de_var 5)) (oa_cons (oe (de_call h_latest_of (hr.mono (by decide)) tk (oa_cons (oe (de_fz (ne_lst (da_cons (de_var 0) (da_cons (de_var 1) (da_cons (de_call h_free_desk (hr.mono (by decide)) tk (oa_cons (oe (de_var 2)) (oa_cons (oe (de_var 3)) (oa_nil)))) (da_nil))))))) (oa_nil)))) (oa_nil)))))
abbrev N_moment_sum : List Str := ["moment", "more"]
theorem sc_moment_sum : FnScope N_moment_sum ["moment", "more"] (defScope s_moment_sum) := ⟨rfl, rfl, rfl, by decide +kernel, rfl, by decide +kernel, by decide +kernel⟩
theorem ok_moment_sum {f : Addr} {fd : FuncData} (F : Fun K "moment_sum" "moment_sum" s_moment_sum f fd) (T : Txt K mg)  : FnOk P w K mg base (L2.CX P w) 1 f fd ["moment", "more"] (spD K mg 2 m_moment_sum) :=
 fn_make (k := 0) F sc_moment_sum (by decide) fun cdv A outer s H E hr tk =>
 dss_one (ds_ret (de_if (dt_cmp op_isN o2_is (oe_var 0) (oe (de_non)) (nomark _)) (de_non) (de_plus (oe_var 0) (oe_var 1))))
abbrev N_counter_row : List Str := ["arrivals", "lengths", "desks", "hours", "found", "begin", "ends", "arrival", "n"]
theorem sc_counter_row : FnScope N_counter_row ["arrivals", "lengths", "desks", "hours"] (defScope s_counter_row) := ⟨rfl, rfl, rfl, by decide +kernel, rfl, by decide +kernel, by decide +kernel⟩
theorem ok_counter_row {f : Addr} {fd : FuncData} (F : Fun K "counter_row" "counter_row" s_counter_row f fd) (T : Txt K mg) (h_check_moments : Fnd P w K mg base "check_moments" 4 2 m_check_moments []) (h_check_counts : Fnd P w K mg base "check_counts" 3 3 m_check_counts []) (h_check_desks : Fnd P w K mg base "check_desks" 3 1 m_check_desks []) (h_check_hours : Fnd P w K mg base "check_hours" 1 1 m_check_hours []) (h_desk_begin : Fnd P w K mg base "desk_begin" 3 6 m_desk_begin []) (h_moment_sum : Fnd P w K mg base "moment_sum" 1 2 m_moment_sum []) : FnOk P w K mg base (L2.CX P w) 5 f fd ["arrivals", "lengths", "desks", "hours"] (spD K mg 4 m_counter_row) :=
 fn_make (k := 4) F sc_counter_row (by decide) fun cdv A outer s H E hr tk =>
 dss_cons (ds_expr (de_call h_check_moments (hr.mono (by decide)) tk (oa_cons (oe (de_str)) (oa_cons (oe (de_var 0)) (oa_nil)))))
 (dss_cons (ds_expr (de_call h_check_counts (hr.mono (by decide)) tk (oa_cons (oe (de_str)) (oa_cons (oe (de_var 1)) (oa_cons (oe (de_callB call_len c_len (by rfl) T.n_len PySem.boot_len (oa_cons (oe_var 0) (oa_nil)))) (oa_nil))))))
 (dss_cons (ds_expr (de_call h_check_desks (hr.mono (by decide)) tk (oa_cons (oe (de_var 2)) (oa_nil))))
 (dss_cons (ds_expr (de_call h_check_hours (hr.mono (by decide)) tk (oa_cons (oe (de_var 3)) (oa_nil))))
 (dss_cons (ds_par3 (i := 4) (j := 5) (l := 6) rfl sc_counter_row.nd rfl rfl rfl (by decide) (by decide) (by decide) rfl rfl rfl (ma_n (ne_lst (da_nil)) (ma_d (de_int) (ma_n (ne_lst (da_nil)) (ma_nil)))))
 (dss_cons (ds_for (passes_of rfl) rfl (di_zip (by rfl) T.n_zip (de_var 0) (de_var 1)) (dg_tup rfl (dgs_cons (dg_name (i := 7) sc_counter_row.nd rfl (Or.inl rfl)) (dgs_cons (dg_name (i := 8) sc_counter_row.nd rfl (Or.inl rfl)) (dgs_nil))))
  (dss_cons (ds_set (i := 5) (de_callL h_desk_begin (hr.mono (by decide)) tk (oa_cons (oe (de_var 7)) (oa_cons (oe (de_var 5)) (oa_cons (oe_var 6) (oa_cons (oe (de_var 2)) (oa_cons (oe (de_var 3)) (oa_cons (oe (de_var 8)) (oa_nil)))))))) sc_counter_row.nd rfl (Or.inl rfl))
  (dss_cons (ds_expr (de_cellM (i := 6) g_app PySem.F.slot_list_append PySem.F.type_list_append mt_append (pv 6) rfl (da_cons (de_call h_moment_sum (hr.mono (by decide)) tk (oa_cons (oe (de_var 5)) (oa_cons (oe (de_var 8)) (oa_nil)))) (da_nil))))
  (dss_one (ds_expr (de_cellM (i := 4) g_app PySem.F.slot_list_append PySem.F.type_list_append mt_append (pv 4) rfl (da_cons (de_fz (ne_tup (da_cons (de_var 5) (da_cons (de_ix ix_seq o2_ix (oe_var 6) (oe (de_un un_neg o1_neg (oe (de_int))))) (da_nil))))) (da_nil))))))))
 (dss_one (ds_retx (i := 4))))))))
abbrev N__law_raised : List Str := ["_law_source", "_law_some", "_law_at", "_law_there"]
theorem sc__law_raised : FnScope N__law_raised ["_law_source", "_law_some", "_law_at"] (defScope s__law_raised) := ⟨rfl, rfl, rfl, by decide +kernel, rfl, by decide +kernel, by decide +kernel⟩
theorem ok__law_raised {f : Addr} {fd : FuncData} (F : Fun K "_law_raised" "_law_raised" s__law_raised f fd) (T : Txt K mg) (h__law_take : Fnd P w K mg base "_law_take" 1 2 m__law_take []) : FnOk P w K mg base (L2.CX P w) 2 f fd ["_law_source", "_law_some", "_law_at"] (spD K mg 3 m__law_raised) :=
 fn_make (k := 1) F sc__law_raised (by decide) fun cdv A outer s H E hr tk =>
 dss_cons (ds_set (i := 3) (de_if (dt_cmp op_isN o2_is (oe (de_ix ix_seq o2_ix (oe_var 1) (oe_var 2))) (oe (de_non)) (nomark _)) (de_non) (de_plus (oe (de_plus (oe (de_ix ix_seq o2_ix (oe_var 1) (oe_var 2))) (oe (de_int)))) (oe (de_call h__law_take (hr.mono (by decide)) tk (oa_cons (oe_var 0) (oa_cons (oe (de_int)) (oa_nil))))))) sc__law_raised.nd rfl (Or.inl rfl))
 (dss_one (ds_retO (ne_bin op_cat o2_cat (oe (de_fz (ne_bin op_cat o2_cat (oe (de_fz (ne_slice (oe_var 1) (pt_none) (pt_some (oe_var 2))))) (oe (de_fz (ne_lst (da_cons (de_var 3) (da_nil)))))))) (oe (de_fz (ne_slice (oe_var 1) (pt_some (oe (de_plus (oe_var 2) (oe (de_int))))) (pt_none)))))))
abbrev N_check_one_moment : List Str := ["value"]
theorem sc_check_one_moment : FnScope N_check_one_moment ["value"] (defScope s_check_one_moment) := ⟨rfl, rfl, rfl, by decide +kernel, rfl, by decide +kernel, by decide +kernel⟩
theorem ok_check_one_moment {f : Addr} {fd : FuncData} (F : Fun K "check_one_moment" "check_one_moment" s_check_one_moment f fd) (T : Txt K mg) (h_is_moment : Fnd P w K mg base "is_moment" 3 1 m_is_moment []) : FnOk P w K mg base (L2.CX P w) 4 f fd ["value"] (spD K mg 1 m_check_one_moment) :=
 fn_make (k := 3) F sc_check_one_moment (by decide) fun cdv A outer s H E hr tk =>
 dss_one (ds_if (dt_not (dt_tru (oe (de_call h_is_moment (hr.mono (by decide)) tk (oa_cons (oe (de_var 0)) (oa_nil))))))
  (dss_one (ds_never))
  (dss_nil))
abbrev N_is_less : List Str := ["one", "other"]
theorem sc_is_less : FnScope N_is_less ["one", "other"] (defScope s_is_less) := ⟨rfl, rfl, rfl, by decide +kernel, rfl, by decide +kernel, by decide +kernel⟩
theorem ok_is_less {f : Addr} {fd : FuncData} (F : Fun K "is_less" "is_less" s_is_less f fd) (T : Txt K mg)  : FnOk P w K mg base (L2.CX P w) 1 f fd ["one", "other"] (spD K mg 2 m_is_less) :=
 fn_make (k := 0) F sc_is_less (by decide) fun cdv A outer s H E hr tk =>
 dss_one (ds_ret (de_and (de_cmp op_notN o2_isnt (oe_var 0) (oe (de_non)) (nomark _)) (de_one (de_or (de_cmp op_isN o2_is (oe_var 1) (oe (de_non)) (nomark _)) (de_one (de_cmp op_lt o2_lt (oe_var 0) (oe_var 1) (nomark _)))))))
abbrev N_is_earlier : List Str := ["one", "other"]
theorem sc_is_earlier : FnScope N_is_earlier ["one", "other"] (defScope s_is_earlier) := ⟨rfl, rfl, rfl, by decide +kernel, rfl, by decide +kernel, by decide +kernel⟩
theorem ok_is_earlier {f : Addr} {fd : FuncData} (F : Fun K "is_earlier" "is_earlier" s_is_earlier f fd) (T : Txt K mg) (h_check_one_moment : Fnd P w K mg base "check_one_moment" 4 1 m_check_one_moment []) (h_is_less : Fnd P w K mg base "is_less" 1 2 m_is_less []) : FnOk P w K mg base (L2.CX P w) 5 f fd ["one", "other"] (spD K mg 2 m_is_earlier) :=
 fn_make (k := 4) F sc_is_earlier (by decide) fun cdv A outer s H E hr tk =>
 dss_cons (ds_expr (de_call h_check_one_moment (hr.mono (by decide)) tk (oa_cons (oe (de_var 0)) (oa_nil))))
 (dss_cons (ds_expr (de_call h_check_one_moment (hr.mono (by decide)) tk (oa_cons (oe (de_var 1)) (oa_nil))))
 (dss_one (ds_ret (de_call h_is_less (hr.mono (by decide)) tk (oa_cons (oe (de_var 0)) (oa_cons (oe (de_var 1)) (oa_nil)))))))
abbrev N__law_none_earlier : List Str := ["_law_row", "_law_later", "_law_one_here", "_law_other"]
theorem sc__law_none_earlier : FnScope N__law_none_earlier ["_law_row", "_law_later"] (defScope s__law_none_earlier) := ⟨rfl, rfl, rfl, by decide +kernel, rfl, by decide +kernel, by decide +kernel⟩
theorem ok__law_none_earlier {f : Addr} {fd : FuncData} (F : Fun K "_law_none_earlier" "_law_none_earlier" s__law_none_earlier f fd) (T : Txt K mg) (h_is_earlier : Fnd P w K mg base "is_earlier" 5 2 m_is_earlier []) : FnOk P w K mg base (L2.CX P w) 6 f fd ["_law_row", "_law_later"] (spD K mg 2 m__law_none_earlier) :=
 fn_make (k := 5) F sc__law_none_earlier (by decide) fun cdv A outer s H E hr tk =>
 dss_cons (ds_for (passes_of rfl) rfl (di_zip (by rfl) T.n_zip (de_var 0) (de_var 1)) (dg_tup rfl (dgs_cons (dg_name (i := 2) sc__law_none_earlier.nd rfl (Or.inl rfl)) (dgs_cons (dg_name (i := 3) sc__law_none_earlier.nd rfl (Or.inl rfl)) (dgs_nil))))
  (dss_one (ds_if (dt_w (dw_or (dt_tru (oe (de_call h_is_earlier (hr.mono (by decide)) tk (oa_cons (oe (de_ix ix_seq o2_ix (oe_var 3) (oe (de_int)))) (oa_cons (oe (de_ix ix_seq o2_ix (oe_var 2) (oe (de_int)))) (oa_nil)))))) (dw_or1 (dt_tru (oe (de_call h_is_earlier (hr.mono (by decide)) tk (oa_cons (oe (de_ix ix_seq o2_ix (oe_var 3) (oe (de_int)))) (oa_cons (oe (de_ix ix_seq o2_ix (oe_var 2) (oe (de_int)))) (oa_nil)))))))))
   (dss_one (ds_ret (de_bl)))
   (dss_nil))))
 (dss_one (ds_ret (de_cmp (op_eqD hr.units) o2_eq (oe (de_callB call_len c_len (by rfl) T.n_len PySem.boot_len (oa_cons (oe_var 0) (oa_nil)))) (oe (de_callB call_len c_len (by rfl) T.n_len PySem.boot_len (oa_cons (oe_var 1) (oa_nil)))) (nomark _))))
abbrev N__law_spans : List Str := ["_law_source", "_law_at", "_law_found", "_law_turn", "_law_first", "_law_last"]
theorem sc__law_spans : FnScope N__law_spans ["_law_source"] (defScope s__law_spans) := ⟨rfl, rfl, rfl, by decide +kernel, rfl, by decide +kernel, by decide +kernel⟩
theorem ok__law_spans {f : Addr} {fd : FuncData} (F : Fun K "_law_spans" "_law_spans" s__law_spans f fd) (T : Txt K mg) (h__law_take : Fnd P w K mg base "_law_take" 1 2 m__law_take []) (h__law_one : Fnd P w K mg base "_law_one" 2 2 m__law_one []) : FnOk P w K mg base (L2.CX P w) 3 f fd ["_law_source"] (spD K mg 1 m__law_spans) :=
 fn_make (k := 2) F sc__law_spans (by decide) fun cdv A outer s H E hr tk =>
 dss_cons (ds_if (dt_cmp (op_eqD hr.units) o2_eq (oe (de_call h__law_take (hr.mono (by decide)) tk (oa_cons (oe_var 0) (oa_cons (oe (de_int)) (oa_nil))))) (oe (de_int)) (nomark _))
  (dss_one (ds_ret (de_non)))
  (dss_nil))
 (dss_cons (ds_par (i := 1) (j := 2) rfl sc__law_spans.nd rfl rfl (by decide) rfl rfl (ma_d (de_int) (ma_n (ne_lst (da_nil)) (ma_nil))))
 (dss_cons (ds_for (passes_of rfl) rfl (di_range1 (by rfl) T.n_range (oe (de_call h__law_one (hr.mono (by decide)) tk (oa_cons (oe_var 0) (oa_cons (oe (de_fz (ne_lst (da_cons (de_int) (da_cons (de_int) (da_cons (de_int) (da_cons (de_int) (da_cons (de_int) (da_cons (de_int) (da_cons (de_int) (da_nil))))))))))) (oa_nil)))))) (dg_name (i := 3) sc__law_spans.nd rfl (Or.inl rfl))
  (dss_cons (ds_set (i := 4) (de_plus (oe_var 1) (oe (de_call h__law_take (hr.mono (by decide)) tk (oa_cons (oe_var 0) (oa_cons (oe (de_int)) (oa_nil)))))) sc__law_spans.nd rfl (Or.inl rfl))
  (dss_cons (ds_set (i := 5) (de_plus (oe_var 4) (oe (de_call h__law_one (hr.mono (by decide)) tk (oa_cons (oe_var 0) (oa_cons (oe (de_fz (ne_lst (da_cons (de_int) (da_cons (de_int) (da_cons (de_int) (da_cons (de_int) (da_cons (de_int) (da_cons (de_int) (da_nil)))))))))) (oa_nil)))))) sc__law_spans.nd rfl (Or.inl rfl))
  (dss_cons (ds_expr (de_cellM (i := 2) g_app PySem.F.slot_list_append PySem.F.type_list_append mt_append (pv 2) rfl (da_cons (de_fz (ne_tup (da_cons (de_var 4) (da_cons (de_var 5) (da_nil))))) (da_nil))))
  (dss_one (ds_set (i := 1) (de_plus (oe (de_plus (oe_var 5) (oe (de_int)))) (oe (de_call h__law_take (hr.mono (by decide)) tk (oa_cons (oe_var 0) (oa_cons (oe (de_int)) (oa_nil)))))) sc__law_spans.nd rfl (Or.inl rfl)))))))
 (dss_one (ds_retx (i := 2)))))
abbrev N_is_within : List Str := ["span", "spans", "first", "last"]
theorem sc_is_within : FnScope N_is_within ["span", "spans"] (defScope s_is_within) := ⟨rfl, rfl, rfl, by decide +kernel, rfl, by decide +kernel, by decide +kernel⟩
theorem ok_is_within {f : Addr} {fd : FuncData} (F : Fun K "is_within" "is_within" s_is_within f fd) (T : Txt K mg)  : FnOk P w K mg base (L2.CX P w) 1 f fd ["span", "spans"] (spD K mg 2 m_is_within) :=
 fn_make (k := 0) F sc_is_within (by decide) fun cdv A outer s H E hr tk =>
 dss_one (ds_ret (de_callB (cr_any rfl) c_any (by rfl) T.n_any boot_any (oa_cons (oe (de_fz (ne_lc rfl sc_is_within.nd (di_seq (de_var 1)) (blkOk_by (N := N_is_within) (sc := defScope s_is_within) (own := [("first", 2), ("last", 3)]) (by decide +kernel)) rfl (fun _ _ _ _ _ => dg_tup rfl (dgs_cons (dg_name (i := 2) sc_is_within.nd rfl (Or.inl rfl)) (dgs_cons (dg_name (i := 3) sc_is_within.nd rfl (Or.inl rfl)) (dgs_nil)))) (fun _ _ _ _ _ => de_and (de_cmp op_le o2_le (oe_var 2) (oe (de_ix ix_seq o2_ix (oe_var 0) (oe (de_int)))) (nomark _)) (de_one (de_cmp op_le o2_le (oe (de_ix ix_seq o2_ix (oe_var 0) (oe (de_int)))) (oe_var 3) (nomark _))))))) (oa_nil))))
abbrev N_Hours___le__ : List Str := ["self", "other", "span"]
theorem sc_Hours___le__ : FnScope N_Hours___le__ ["self", "other"] (defScope s_Hours___le__) := ⟨rfl, rfl, rfl, by decide +kernel, rfl, by decide +kernel, by decide +kernel⟩
theorem ok_Hours___le__ {f : Addr} {fd : FuncData} (F : Fun K "__le__" "Hours.__le__" s_Hours___le__ f fd) (T : Txt K mg) (h_is_within : Fnd P w K mg base "is_within" 1 2 m_is_within []) : FnOk P w K mg base (L2.CX P w) 2 f fd ["self", "other"] (spD K mg 2 m_Hours___le__) :=
 fn_make (k := 1) F sc_Hours___le__ (by decide) fun cdv A outer s H E hr tk =>
 dss_cons (ds_if (dt_not (dt_tru (oe (de_isi T.isi (oe_var 1) (ty_own T.k_Hours)))))
  (dss_one (ds_never))
  (dss_nil))
 (dss_cons (ds_if (dt_w (dw_or (dt_cmp op_isN o2_is (oe (de_fld T.f_own_spans (oe_var 1))) (oe (de_non)) (nomark _)) (dw_or1 (dt_cmp op_isN o2_is (oe (de_fld T.f_own_spans (oe_var 0))) (oe (de_non)) (nomark _)))))
  (dss_one (ds_ret (de_cmp op_isN o2_is (oe (de_fld T.f_own_spans (oe_var 1))) (oe (de_non)) (nomark _))))
  (dss_nil))
 (dss_one (ds_ret (de_callB (cr_all rfl) c_all (by rfl) T.n_all boot_all (oa_cons (oe (de_fz (ne_lc rfl sc_Hours___le__.nd (di_seq (de_fld T.f_own_spans (oe_var 0))) (blkOk_by (N := N_Hours___le__) (sc := defScope s_Hours___le__) (own := [("span", 2)]) (by decide +kernel)) rfl (fun _ _ _ _ _ => dg_name (i := 2) sc_Hours___le__.nd rfl (Or.inl rfl)) (fun _ _ _ _ _ => de_call h_is_within (hr.mono (by decide)) takes0 (oa_cons (oe (de_var 2)) (oa_cons (oe (de_fld T.f_own_spans (oe_var 1))) (oa_nil))))))) (oa_nil))))))
abbrev N__law_counter_rises : List Str := ["_law_source", "_law_arrivals_here", "_law_lengths_here", "_law_spans_here", "_law_many", "_law_at", "_law_hours_here", "_law_row", "_law_later", "_law_longer", "_law_cut", "_law_span"]
theorem sc__law_counter_rises : FnScope N__law_counter_rises ["_law_source", "_law_arrivals_here", "_law_lengths_here", "_law_spans_here"] (defScope s__law_counter_rises) := ⟨rfl, rfl, rfl, by decide +kernel, rfl, by decide +kernel, by decide +kernel⟩
theorem ok__law_counter_rises {f : Addr} {fd : FuncData} (F : Fun K "_law_counter_rises" "_law_counter_rises" s__law_counter_rises f fd) (T : Txt K mg) (h__law_take : Fnd P w K mg base "_law_take" 1 2 m__law_take []) (h_Hours___init__ : Mkd P w K mg base "Hours" 6 2 m_Hours___init__ []) (h_counter_row : Fnd P w K mg base "counter_row" 5 4 m_counter_row []) (h__law_raised : Fnd P w K mg base "_law_raised" 2 3 m__law_raised []) (h__law_none_earlier : Fnd P w K mg base "_law_none_earlier" 6 2 m__law_none_earlier []) (h__law_spans : Fnd P w K mg base "_law_spans" 3 1 m__law_spans []) (h_Hours___le__ : CmpOwn P w K mg base "Hours" .LtE 2 m_Hours___le__) : FnOk P w K mg base (L2.CX P w) 8 f fd ["_law_source", "_law_arrivals_here", "_law_lengths_here", "_law_spans_here"] (spD K mg 4 m__law_counter_rises) :=
 fn_make (k := 7) F sc__law_counter_rises (by decide) fun cdv A outer s H E hr tk =>
 dss_cons (ds_par (i := 4) (j := 5) rfl sc__law_counter_rises.nd rfl rfl (by decide) rfl rfl (ma_d (de_plus (oe (de_int)) (oe (de_call h__law_take (hr.mono (by decide)) tk (oa_cons (oe_var 0) (oa_cons (oe (de_int)) (oa_nil)))))) (ma_d (de_call h__law_take (hr.mono (by decide)) tk (oa_cons (oe_var 0) (oa_cons (oe (de_callB call_len c_len (by rfl) T.n_len PySem.boot_len (oa_cons (oe_var 1) (oa_nil)))) (oa_nil)))) (ma_nil))))
 (dss_cons (ds_set (i := 6) (de_fz (ne_make h_Hours___init__ (hr.mono (by decide)) tk (oa_cons (oe (de_var 3)) (oa_nil)))) sc__law_counter_rises.nd rfl (Or.inl rfl))
 (dss_cons (ds_set (i := 7) (de_call h_counter_row (hr.mono (by decide)) tk (oa_cons (oe (de_var 1)) (oa_cons (oe (de_var 2)) (oa_cons (oe (de_var 4)) (oa_cons (oe (de_var 6)) (oa_nil)))))) sc__law_counter_rises.nd rfl (Or.inl rfl))
 (dss_cons (ds_set (i := 8) (de_call h_counter_row (hr.mono (by decide)) tk (oa_cons (oe (de_call h__law_raised (hr.mono (by decide)) tk (oa_cons (oe_var 0) (oa_cons (oe (de_var 1)) (oa_cons (oe (de_var 5)) (oa_nil)))))) (oa_cons (oe (de_var 2)) (oa_cons (oe (de_var 4)) (oa_cons (oe (de_var 6)) (oa_nil)))))) sc__law_counter_rises.nd rfl (Or.inl rfl))
 (dss_cons (ds_set (i := 9) (de_call h_counter_row (hr.mono (by decide)) tk (oa_cons (oe (de_var 1)) (oa_cons (oe (de_call h__law_raised (hr.mono (by decide)) tk (oa_cons (oe_var 0) (oa_cons (oe (de_var 2)) (oa_cons (oe (de_var 5)) (oa_nil)))))) (oa_cons (oe (de_var 4)) (oa_cons (oe (de_var 6)) (oa_nil)))))) sc__law_counter_rises.nd rfl (Or.inl rfl))
 (dss_cons (ds_if (dt_w (dw_or (dt_not (dt_tru (oe (de_call h__law_none_earlier (hr.mono (by decide)) tk (oa_cons (oe (de_var 7)) (oa_cons (oe (de_var 8)) (oa_nil))))))) (dw_or1 (dt_not (dt_tru (oe (de_call h__law_none_earlier (hr.mono (by decide)) tk (oa_cons (oe (de_var 7)) (oa_cons (oe (de_var 9)) (oa_nil))))))))))
  (dss_one (ds_ret (de_bl)))
  (dss_nil))
 (dss_cons (ds_if (dt_w (dw_and (dt_cmp op_gt o2_gt (oe_var 4) (oe (de_int)) (nomark _)) (dw_and1 (dt_not (dt_tru (oe (de_call h__law_none_earlier (hr.mono (by decide)) tk (oa_cons (oe (de_var 7)) (oa_cons (oe (de_call h_counter_row (hr.mono (by decide)) tk (oa_cons (oe (de_var 1)) (oa_cons (oe (de_var 2)) (oa_cons (oe (de_bin op_sub o2_sub (oe_var 4) (oe (de_int)))) (oa_cons (oe (de_var 6)) (oa_nil))))))) (oa_nil))))))))))
  (dss_one (ds_ret (de_bl)))
  (dss_nil))
 (dss_cons (ds_set (i := 10) (de_fz (ne_make h_Hours___init__ (hr.mono (by decide)) tk (oa_cons (oe (de_if (dt_cmp op_isN o2_is (oe_var 3) (oe (de_non)) (nomark _)) (de_call h__law_spans (hr.mono (by decide)) tk (oa_cons (oe_var 0) (oa_nil))) (de_fz (ne_lcIf rfl sc__law_counter_rises.nd (di_seq (de_var 3)) (blkOk_by (N := N__law_counter_rises) (sc := defScope s__law_counter_rises) (own := [("_law_span", 11)]) (by decide +kernel)) rfl (fun _ _ _ _ _ => dg_name (i := 11) sc__law_counter_rises.nd rfl (Or.inl rfl)) (fun _ _ _ _ _ => dt_cmp op_gt o2_gt (oe (de_call h__law_take (hr.mono (by decide)) takes0 (oa_cons (oe_var 0) (oa_cons (oe (de_int)) (oa_nil))))) (oe (de_int)) (nomark _)) (fun _ _ _ _ _ => de_var 11))))) (oa_nil)))) sc__law_counter_rises.nd rfl (Or.inl rfl))
 (dss_cons (ds_if (dt_w (dw_or (dt_not (dt_cmpOwn h_Hours___le__ (hr.mono (by decide)) tk (oe (de_var 10)) (oe (de_var 6)) (nomark _))) (dw_or1 (dt_not (dt_tru (oe (de_call h__law_none_earlier (hr.mono (by decide)) tk (oa_cons (oe (de_var 7)) (oa_cons (oe (de_call h_counter_row (hr.mono (by decide)) tk (oa_cons (oe (de_var 1)) (oa_cons (oe (de_var 2)) (oa_cons (oe (de_var 4)) (oa_cons (oe (de_var 10)) (oa_nil))))))) (oa_nil))))))))))
  (dss_one (ds_ret (de_bl)))
  (dss_nil))
 (dss_one (ds_ret (de_cmp (op_eqD hr.units) o2_eq (oe (de_call h_counter_row (hr.mono (by decide)) tk (oa_cons (oe (de_fz (ne_slice (oe_var 1) (pt_none) (pt_some (oe_var 5))))) (oa_cons (oe (de_fz (ne_slice (oe_var 2) (pt_none) (pt_some (oe_var 5))))) (oa_cons (oe (de_var 4)) (oa_cons (oe (de_var 6)) (oa_nil))))))) (oe (de_fz (ne_slice (oe_var 7) (pt_none) (pt_some (oe_var 5))))) (nomark _))))))))))))
abbrev N_check_whole : List Str := ["value"]
theorem sc_check_whole : FnScope N_check_whole ["value"] (defScope s_check_whole) := ⟨rfl, rfl, rfl, by decide +kernel, rfl, by decide +kernel, by decide +kernel⟩
theorem ok_check_whole {f : Addr} {fd : FuncData} (F : Fun K "check_whole" "check_whole" s_check_whole f fd) (T : Txt K mg) (h_is_count : Fnd P w K mg base "is_count" 2 1 m_is_count []) : FnOk P w K mg base (L2.CX P w) 3 f fd ["value"] (spD K mg 1 m_check_whole) :=
 fn_make (k := 2) F sc_check_whole (by decide) fun cdv A outer s H E hr tk =>
 dss_one (ds_if (dt_not (dt_tru (oe (de_call h_is_count (hr.mono (by decide)) tk (oa_cons (oe (de_var 0)) (oa_nil))))))
  (dss_one (ds_never))
  (dss_nil))
abbrev N_check_quorum : List Str := ["quorum", "arrivals"]
theorem sc_check_quorum : FnScope N_check_quorum ["quorum", "arrivals"] (defScope s_check_quorum) := ⟨rfl, rfl, rfl, by decide +kernel, rfl, by decide +kernel, by decide +kernel⟩
theorem ok_check_quorum {f : Addr} {fd : FuncData} (F : Fun K "check_quorum" "check_quorum" s_check_quorum f fd) (T : Txt K mg) (h_is_between : Fnd P w K mg base "is_between" 2 3 m_is_between []) : FnOk P w K mg base (L2.CX P w) 3 f fd ["quorum", "arrivals"] (spD K mg 2 m_check_quorum) :=
 fn_make (k := 2) F sc_check_quorum (by decide) fun cdv A outer s H E hr tk =>
 dss_one (ds_if (dt_not (dt_tru (oe (de_call h_is_between (hr.mono (by decide)) tk (oa_cons (oe (de_var 0)) (oa_cons (oe (de_int)) (oa_cons (oe (de_callB call_len c_len (by rfl) T.n_len PySem.boot_len (oa_cons (oe_var 1) (oa_nil)))) (oa_nil))))))))
  (dss_one (ds_never))
  (dss_nil))
abbrev N_meet_begin : List Str := ["opens", "arrivals", "quorum"]
theorem sc_meet_begin : FnScope N_meet_begin ["opens", "arrivals", "quorum"] (defScope s_meet_begin) := ⟨rfl, rfl, rfl, by decide +kernel, rfl, by decide +kernel, by decide +kernel⟩
theorem ok_meet_begin {f : Addr} {fd : FuncData} (F : Fun K "meet_begin" "meet_begin" s_meet_begin f fd) (T : Txt K mg) (h_so_many_th : Fnd P w K mg base "so_many_th" 1 2 m_so_many_th []) (h_latest_of : Fnd P w K mg base "latest_of" 1 1 m_latest_of []) : FnOk P w K mg base (L2.CX P w) 2 f fd ["opens", "arrivals", "quorum"] (spD K mg 3 m_meet_begin) :=
 fn_make (k := 1) F sc_meet_begin (by decide) fun cdv A outer s H E hr tk =>
 dss_one (ds_ret (de_call h_latest_of (hr.mono (by decide)) tk (oa_cons (oe (de_fz (ne_lst (da_cons (de_var 0) (da_cons (de_call h_so_many_th (hr.mono (by decide)) tk (oa_cons (oe (de_var 1)) (oa_cons (oe (de_var 2)) (oa_nil)))) (da_nil)))))) (oa_nil))))
abbrev N_meet_end : List Str := ["begin", "length", "arrival"]
theorem sc_meet_end : FnScope N_meet_end ["begin", "length", "arrival"] (defScope s_meet_end) := ⟨rfl, rfl, rfl, by decide +kernel, rfl, by decide +kernel, by decide +kernel⟩
theorem ok_meet_end {f : Addr} {fd : FuncData} (F : Fun K "meet_end" "meet_end" s_meet_end f fd) (T : Txt K mg) (h_moment_sum : Fnd P w K mg base "moment_sum" 1 2 m_moment_sum []) (h_latest_of : Fnd P w K mg base "latest_of" 1 1 m_latest_of []) : FnOk P w K mg base (L2.CX P w) 2 f fd ["begin", "length", "arrival"] (spD K mg 3 m_meet_end) :=
 fn_make (k := 1) F sc_meet_end (by decide) fun cdv A outer s H E hr tk =>
 dss_one (ds_ret (de_call h_latest_of (hr.mono (by decide)) tk (oa_cons (oe (de_fz (ne_lst (da_cons (de_call h_moment_sum (hr.mono (by decide)) tk (oa_cons (oe (de_var 0)) (oa_cons (oe (de_var 1)) (oa_nil)))) (da_cons (de_var 2) (da_nil)))))) (oa_nil))))
abbrev N_meeting_row : List Str := ["opens", "length", "quorum", "arrivals", "begin", "arrival"]
theorem sc_meeting_row : FnScope N_meeting_row ["opens", "length", "quorum", "arrivals"] (defScope s_meeting_row) := ⟨rfl, rfl, rfl, by decide +kernel, rfl, by decide +kernel, by decide +kernel⟩
theorem ok_meeting_row {f : Addr} {fd : FuncData} (F : Fun K "meeting_row" "meeting_row" s_meeting_row f fd) (T : Txt K mg) (h_check_whole : Fnd P w K mg base "check_whole" 3 1 m_check_whole []) (h_check_moments : Fnd P w K mg base "check_moments" 4 2 m_check_moments []) (h_check_quorum : Fnd P w K mg base "check_quorum" 3 2 m_check_quorum []) (h_meet_begin : Fnd P w K mg base "meet_begin" 2 3 m_meet_begin []) (h_meet_end : Fnd P w K mg base "meet_end" 2 3 m_meet_end []) : FnOk P w K mg base (L2.CX P w) 5 f fd ["opens", "length", "quorum", "arrivals"] (spD K mg 4 m_meeting_row) :=
 fn_make (k := 4) F sc_meeting_row (by decide) fun cdv A outer s H E hr tk =>
 dss_cons (ds_expr (de_call h_check_whole (hr.mono (by decide)) tk (oa_cons (oe (de_var 0)) (oa_nil))))
 (dss_cons (ds_expr (de_call h_check_whole (hr.mono (by decide)) tk (oa_cons (oe (de_var 1)) (oa_nil))))
 (dss_cons (ds_expr (de_call h_check_moments (hr.mono (by decide)) tk (oa_cons (oe (de_str)) (oa_cons (oe (de_var 3)) (oa_nil)))))
 (dss_cons (ds_expr (de_call h_check_quorum (hr.mono (by decide)) tk (oa_cons (oe (de_var 2)) (oa_cons (oe (de_var 3)) (oa_nil)))))
 (dss_cons (ds_set (i := 4) (de_call h_meet_begin (hr.mono (by decide)) tk (oa_cons (oe (de_var 0)) (oa_cons (oe (de_var 3)) (oa_cons (oe (de_var 2)) (oa_nil))))) sc_meeting_row.nd rfl (Or.inr rfl))
 (dss_one (ds_retO (ne_lc rfl sc_meeting_row.nd (di_seq (de_var 3)) (blkOk_by (N := N_meeting_row) (sc := defScope s_meeting_row) (own := [("arrival", 5)]) (by decide +kernel)) rfl (fun _ _ _ _ _ => dg_name (i := 5) sc_meeting_row.nd rfl (Or.inl rfl)) (fun _ _ _ _ _ => de_fz (ne_tup (da_cons (de_var 4) (da_cons (de_call h_meet_end (hr.mono (by decide)) takes0 (oa_cons (oe (de_var 4)) (oa_cons (oe (de_var 1)) (oa_cons (oe (de_var 5)) (oa_nil))))) (da_nil))))))))))))
abbrev N__law_meeting_rises : List Str := ["_law_source", "_law_arrivals_here", "_law_opens_here", "_law_length_here", "_law_at", "_law_quorum_here", "_law_row", "_law_later"]
theorem sc__law_meeting_rises : FnScope N__law_meeting_rises ["_law_source", "_law_arrivals_here"] (defScope s__law_meeting_rises) := ⟨rfl, rfl, rfl, by decide +kernel, rfl, by decide +kernel, by decide +kernel⟩
theorem ok__law_meeting_rises {f : Addr} {fd : FuncData} (F : Fun K "_law_meeting_rises" "_law_meeting_rises" s__law_meeting_rises f fd) (T : Txt K mg) (h__law_take : Fnd P w K mg base "_law_take" 1 2 m__law_take []) (h_meeting_row : Fnd P w K mg base "meeting_row" 5 4 m_meeting_row []) (h__law_raised : Fnd P w K mg base "_law_raised" 2 3 m__law_raised []) (h__law_none_earlier : Fnd P w K mg base "_law_none_earlier" 6 2 m__law_none_earlier []) : FnOk P w K mg base (L2.CX P w) 7 f fd ["_law_source", "_law_arrivals_here"] (spD K mg 2 m__law_meeting_rises) :=
 fn_make (k := 6) F sc__law_meeting_rises (by decide) fun cdv A outer s H E hr tk =>
 dss_cons (ds_par3 (i := 2) (j := 3) (l := 4) rfl sc__law_meeting_rises.nd rfl rfl rfl (by decide) (by decide) (by decide) rfl rfl rfl (ma_d (de_call h__law_take (hr.mono (by decide)) tk (oa_cons (oe_var 0) (oa_cons (oe (de_int)) (oa_nil)))) (ma_d (de_call h__law_take (hr.mono (by decide)) tk (oa_cons (oe_var 0) (oa_cons (oe (de_int)) (oa_nil)))) (ma_d (de_call h__law_take (hr.mono (by decide)) tk (oa_cons (oe_var 0) (oa_cons (oe (de_callB call_len c_len (by rfl) T.n_len PySem.boot_len (oa_cons (oe_var 1) (oa_nil)))) (oa_nil)))) (ma_nil)))))
 (dss_cons (ds_set (i := 5) (de_plus (oe (de_int)) (oe (de_call h__law_take (hr.mono (by decide)) tk (oa_cons (oe_var 0) (oa_cons (oe (de_callB call_len c_len (by rfl) T.n_len PySem.boot_len (oa_cons (oe_var 1) (oa_nil)))) (oa_nil)))))) sc__law_meeting_rises.nd rfl (Or.inl rfl))
 (dss_cons (ds_set (i := 6) (de_call h_meeting_row (hr.mono (by decide)) tk (oa_cons (oe (de_var 2)) (oa_cons (oe (de_var 3)) (oa_cons (oe (de_var 5)) (oa_cons (oe (de_var 1)) (oa_nil)))))) sc__law_meeting_rises.nd rfl (Or.inl rfl))
 (dss_cons (ds_set (i := 7) (de_call h_meeting_row (hr.mono (by decide)) tk (oa_cons (oe (de_var 2)) (oa_cons (oe (de_var 3)) (oa_cons (oe (de_var 5)) (oa_cons (oe (de_call h__law_raised (hr.mono (by decide)) tk (oa_cons (oe_var 0) (oa_cons (oe (de_var 1)) (oa_cons (oe (de_var 4)) (oa_nil)))))) (oa_nil)))))) sc__law_meeting_rises.nd rfl (Or.inl rfl))
 (dss_cons (ds_if (dt_not (dt_tru (oe (de_call h__law_none_earlier (hr.mono (by decide)) tk (oa_cons (oe (de_var 6)) (oa_cons (oe (de_var 7)) (oa_nil)))))))
  (dss_one (ds_ret (de_bl)))
  (dss_nil))
 (dss_cons (ds_if (dt_not (dt_tru (oe (de_call h__law_none_earlier (hr.mono (by decide)) tk (oa_cons (oe (de_var 6)) (oa_cons (oe (de_call h_meeting_row (hr.mono (by decide)) tk (oa_cons (oe (de_plus (oe_var 2) (oe (de_int)))) (oa_cons (oe (de_var 3)) (oa_cons (oe (de_var 5)) (oa_cons (oe (de_var 1)) (oa_nil))))))) (oa_nil)))))))
  (dss_one (ds_ret (de_bl)))
  (dss_nil))
 (dss_cons (ds_if (dt_not (dt_tru (oe (de_call h__law_none_earlier (hr.mono (by decide)) tk (oa_cons (oe (de_var 6)) (oa_cons (oe (de_call h_meeting_row (hr.mono (by decide)) tk (oa_cons (oe (de_var 2)) (oa_cons (oe (de_plus (oe_var 3) (oe (de_int)))) (oa_cons (oe (de_var 5)) (oa_cons (oe (de_var 1)) (oa_nil))))))) (oa_nil)))))))
  (dss_one (ds_ret (de_bl)))
  (dss_nil))
 (dss_cons (ds_if (dt_cmp (op_eqD hr.units) o2_eq (oe_var 5) (oe (de_callB call_len c_len (by rfl) T.n_len PySem.boot_len (oa_cons (oe_var 1) (oa_nil)))) (nomark _))
  (dss_one (ds_ret (de_bl)))
  (dss_nil))
 (dss_one (ds_ret (de_call h__law_none_earlier (hr.mono (by decide)) tk (oa_cons (oe (de_var 6)) (oa_cons (oe (de_call h_meeting_row (hr.mono (by decide)) tk (oa_cons (oe (de_var 2)) (oa_cons (oe (de_var 3)) (oa_cons (oe (de_plus (oe_var 5) (oe (de_int)))) (oa_cons (oe (de_var 1)) (oa_nil))))))) (oa_nil)))))))))))))
abbrev N_check_notices : List Str := ["notices", "many", "one"]
theorem sc_check_notices : FnScope N_check_notices ["notices", "many"] (defScope s_check_notices) := ⟨rfl, rfl, rfl, by decide +kernel, rfl, by decide +kernel, by decide +kernel⟩
theorem ok_check_notices {f : Addr} {fd : FuncData} (F : Fun K "check_notices" "check_notices" s_check_notices f fd) (T : Txt K mg) (h_is_count : Fnd P w K mg base "is_count" 2 1 m_is_count []) (h_is_list : Fnd P w K mg base "is_list" 1 1 m_is_list []) : FnOk P w K mg base (L2.CX P w) 3 f fd ["notices", "many"] (spD K mg 2 m_check_notices) :=
 fn_make (k := 2) F sc_check_notices (by decide) fun cdv A outer s H E hr tk =>
 dss_one (ds_if (dt_w (dw_or (dt_not (dt_tru (oe (de_call h_is_list (hr.mono (by decide)) tk (oa_cons (oe (de_var 0)) (oa_nil)))))) (dw_or (dt_cmp (op_neD hr.units) o2_ne (oe (de_callB call_len c_len (by rfl) T.n_len PySem.boot_len (oa_cons (oe_var 0) (oa_nil)))) (oe_var 1) (nomark _)) (dw_or1 (dt_not (dt_tru (oe (de_callB (cr_all rfl) c_all (by rfl) T.n_all boot_all (oa_cons (oe (de_fz (ne_lc rfl sc_check_notices.nd (di_seq (de_var 0)) (blkOk_by (N := N_check_notices) (sc := defScope s_check_notices) (own := [("one", 2)]) (by decide +kernel)) rfl (fun _ _ _ _ _ => dg_name (i := 2) sc_check_notices.nd rfl (Or.inl rfl)) (fun _ _ _ _ _ => de_or (de_cmp op_isN o2_is (oe_var 2) (oe (de_non)) (nomark _)) (de_one (de_call h_is_count (hr.mono (by decide)) takes0 (oa_cons (oe (de_var 2)) (oa_nil)))))))) (oa_nil))))))))))
  (dss_one (ds_never))
  (dss_nil))
abbrev N_turned_begin : List Str := ["arrival", "end_ahead", "turn"]
theorem sc_turned_begin : FnScope N_turned_begin ["arrival", "end_ahead", "turn"] (defScope s_turned_begin) := ⟨rfl, rfl, rfl, by decide +kernel, rfl, by decide +kernel, by decide +kernel⟩
theorem ok_turned_begin {f : Addr} {fd : FuncData} (F : Fun K "turned_begin" "turned_begin" s_turned_begin f fd) (T : Txt K mg) (h_moment_sum : Fnd P w K mg base "moment_sum" 1 2 m_moment_sum []) (h_latest_of : Fnd P w K mg base "latest_of" 1 1 m_latest_of []) : FnOk P w K mg base (L2.CX P w) 2 f fd ["arrival", "end_ahead", "turn"] (spD K mg 3 m_turned_begin) :=
 fn_make (k := 1) F sc_turned_begin (by decide) fun cdv A outer s H E hr tk =>
 dss_one (ds_ret (de_call h_latest_of (hr.mono (by decide)) tk (oa_cons (oe (de_fz (ne_lst (da_cons (de_var 0) (da_cons (de_call h_moment_sum (hr.mono (by decide)) tk (oa_cons (oe (de_var 1)) (oa_cons (oe (de_var 2)) (oa_nil)))) (da_nil)))))) (oa_nil))))
abbrev N_first_of : List Str := ["moments", "found", "one"]
theorem sc_first_of : FnScope N_first_of ["moments"] (defScope s_first_of) := ⟨rfl, rfl, rfl, by decide +kernel, rfl, by decide +kernel, by decide +kernel⟩
theorem ok_first_of {f : Addr} {fd : FuncData} (F : Fun K "first_of" "first_of" s_first_of f fd) (T : Txt K mg) (h_is_less : Fnd P w K mg base "is_less" 1 2 m_is_less []) : FnOk P w K mg base (L2.CX P w) 2 f fd ["moments"] (spD K mg 1 m_first_of) :=
 fn_make (k := 1) F sc_first_of (by decide) fun cdv A outer s H E hr tk =>
 dss_cons (ds_set (i := 1) (de_non) sc_first_of.nd rfl (Or.inl rfl))
 (dss_cons (ds_for (passes_of rfl) rfl (di_seq (de_var 0)) (dg_name (i := 2) sc_first_of.nd rfl (Or.inl rfl))
  (dss_one (ds_set (i := 1) (de_if (dt_tru (oe (de_call h_is_less (hr.mono (by decide)) tk (oa_cons (oe (de_var 2)) (oa_cons (oe (de_var 1)) (oa_nil)))))) (de_var 2) (de_var 1)) sc_first_of.nd rfl (Or.inl rfl))))
 (dss_one (ds_retx (i := 1))))
abbrev N_early_end : List Str := ["begin", "n", "notice", "behind"]
theorem sc_early_end : FnScope N_early_end ["begin", "n", "notice", "behind"] (defScope s_early_end) := ⟨rfl, rfl, rfl, by decide +kernel, rfl, by decide +kernel, by decide +kernel⟩
theorem ok_early_end {f : Addr} {fd : FuncData} (F : Fun K "early_end" "early_end" s_early_end f fd) (T : Txt K mg) (h_latest_of : Fnd P w K mg base "latest_of" 1 1 m_latest_of []) (h_moment_sum : Fnd P w K mg base "moment_sum" 1 2 m_moment_sum []) (h_first_of : Fnd P w K mg base "first_of" 2 1 m_first_of []) : FnOk P w K mg base (L2.CX P w) 3 f fd ["begin", "n", "notice", "behind"] (spD K mg 4 m_early_end) :=
 fn_make (k := 2) F sc_early_end (by decide) fun cdv A outer s H E hr tk =>
 dss_one (ds_ret (de_call h_first_of (hr.mono (by decide)) tk (oa_cons (oe (de_fz (ne_lst (da_cons (de_call h_moment_sum (hr.mono (by decide)) tk (oa_cons (oe (de_var 0)) (oa_cons (oe (de_var 1)) (oa_nil)))) (da_cons (de_call h_moment_sum (hr.mono (by decide)) tk (oa_cons (oe (de_call h_latest_of (hr.mono (by decide)) tk (oa_cons (oe (de_fz (ne_lst (da_cons (de_var 0) (da_cons (de_var 3) (da_nil)))))) (oa_nil)))) (oa_cons (oe (de_var 2)) (oa_nil)))) (da_nil)))))) (oa_nil))))
abbrev N_room_row : List Str := ["arrivals", "lengths", "turn", "notices", "found", "at", "arrival", "begin"]
theorem sc_room_row : FnScope N_room_row ["arrivals", "lengths", "turn", "notices"] (defScope s_room_row) := ⟨rfl, rfl, rfl, by decide +kernel, rfl, by decide +kernel, by decide +kernel⟩
theorem ok_room_row {f : Addr} {fd : FuncData} (F : Fun K "room_row" "room_row" s_room_row f fd) (T : Txt K mg) (h_check_moments : Fnd P w K mg base "check_moments" 4 2 m_check_moments []) (h_check_counts : Fnd P w K mg base "check_counts" 3 3 m_check_counts []) (h_check_whole : Fnd P w K mg base "check_whole" 3 1 m_check_whole []) (h_check_notices : Fnd P w K mg base "check_notices" 3 2 m_check_notices []) (h_turned_begin : Fnd P w K mg base "turned_begin" 2 3 m_turned_begin []) (h_moment_sum : Fnd P w K mg base "moment_sum" 1 2 m_moment_sum []) (h_early_end : Fnd P w K mg base "early_end" 3 4 m_early_end []) : FnOk P w K mg base (L2.CX P w) 5 f fd ["arrivals", "lengths", "turn", "notices"] (spD K mg 4 m_room_row) :=
 fn_make (k := 4) F sc_room_row (by decide) fun cdv A outer s H E hr tk =>
 dss_cons (ds_expr (de_call h_check_moments (hr.mono (by decide)) tk (oa_cons (oe (de_str)) (oa_cons (oe (de_var 0)) (oa_nil)))))
 (dss_cons (ds_expr (de_call h_check_counts (hr.mono (by decide)) tk (oa_cons (oe (de_str)) (oa_cons (oe (de_var 1)) (oa_cons (oe (de_callB call_len c_len (by rfl) T.n_len PySem.boot_len (oa_cons (oe_var 0) (oa_nil)))) (oa_nil))))))
 (dss_cons (ds_expr (de_call h_check_whole (hr.mono (by decide)) tk (oa_cons (oe (de_var 2)) (oa_nil))))
 (dss_cons (ds_expr (de_call h_check_notices (hr.mono (by decide)) tk (oa_cons (oe (de_var 3)) (oa_cons (oe (de_callB call_len c_len (by rfl) T.n_len PySem.boot_len (oa_cons (oe_var 0) (oa_nil)))) (oa_nil)))))
 (dss_cons (ds_setN (i := 4) (ne_lst (da_nil)) sc_room_row.nd rfl (Or.inl rfl))
 (dss_cons (ds_for (passes_of rfl) rfl (di_enum (by rfl) T.n_enumerate (de_var 0)) (dg_tup rfl (dgs_cons (dg_name (i := 5) sc_room_row.nd rfl (Or.inl rfl)) (dgs_cons (dg_name (i := 6) sc_room_row.nd rfl (Or.inl rfl)) (dgs_nil))))
  (dss_cons (ds_set (i := 7) (de_if (dt_cmp (op_eqD hr.units) o2_eq (oe_var 5) (oe (de_int)) (nomark _)) (de_var 6) (de_call h_turned_begin (hr.mono (by decide)) tk (oa_cons (oe (de_var 6)) (oa_cons (oe (de_ix ix_seq o2_ix (oe (de_ix ix_seq o2_ix (oe_var 4) (oe (de_un un_neg o1_neg (oe (de_int)))))) (oe (de_int)))) (oa_cons (oe (de_var 2)) (oa_nil)))))) sc_room_row.nd rfl (Or.inl rfl))
  (dss_one (ds_if (dt_w (dw_or (dt_cmp op_isN o2_is (oe (de_ix ix_seq o2_ix (oe_var 3) (oe_var 5))) (oe (de_non)) (nomark _)) (dw_or1 (dt_cmp (op_eqD hr.units) o2_eq (oe (de_plus (oe_var 5) (oe (de_int)))) (oe (de_callB call_len c_len (by rfl) T.n_len PySem.boot_len (oa_cons (oe_var 0) (oa_nil)))) (nomark _)))))
   (dss_one (ds_expr (de_cellM (i := 4) g_app PySem.F.slot_list_append PySem.F.type_list_append mt_append (pv 4) rfl (da_cons (de_fz (ne_tup (da_cons (de_var 7) (da_cons (de_call h_moment_sum (hr.mono (by decide)) tk (oa_cons (oe (de_var 7)) (oa_cons (oe (de_ix ix_seq o2_ix (oe_var 1) (oe_var 5))) (oa_nil)))) (da_nil))))) (da_nil)))))
   (dss_one (ds_expr (de_cellM (i := 4) g_app PySem.F.slot_list_append PySem.F.type_list_append mt_append (pv 4) rfl (da_cons (de_fz (ne_tup (da_cons (de_var 7) (da_cons (de_call h_early_end (hr.mono (by decide)) tk (oa_cons (oe (de_var 7)) (oa_cons (oe (de_ix ix_seq o2_ix (oe_var 1) (oe_var 5))) (oa_cons (oe (de_ix ix_seq o2_ix (oe_var 3) (oe_var 5))) (oa_cons (oe (de_ix ix_seq o2_ix (oe_var 0) (oe (de_plus (oe_var 5) (oe (de_int)))))) (oa_nil)))))) (da_nil))))) (da_nil)))))))))
 (dss_one (ds_retx (i := 4))))))))
abbrev N__law_room_rises : List Str := ["_law_source", "_law_arrivals_here", "_law_lengths_here", "_law_notices_here", "_law_turn_here", "_law_at", "_law_row", "_law_some", "_law_later", "_law_first", "_law_one_here"]
theorem sc__law_room_rises : FnScope N__law_room_rises ["_law_source", "_law_arrivals_here", "_law_lengths_here"] (defScope s__law_room_rises) := ⟨rfl, rfl, rfl, by decide +kernel, rfl, by decide +kernel, by decide +kernel⟩
theorem ok__law_room_rises {f : Addr} {fd : FuncData} (F : Fun K "_law_room_rises" "_law_room_rises" s__law_room_rises f fd) (T : Txt K mg) (h__law_one : Fnd P w K mg base "_law_one" 2 2 m__law_one []) (h__law_take : Fnd P w K mg base "_law_take" 1 2 m__law_take []) (h_room_row : Fnd P w K mg base "room_row" 5 4 m_room_row []) (h__law_raised : Fnd P w K mg base "_law_raised" 2 3 m__law_raised []) (h__law_none_earlier : Fnd P w K mg base "_law_none_earlier" 6 2 m__law_none_earlier []) : FnOk P w K mg base (L2.CX P w) 7 f fd ["_law_source", "_law_arrivals_here", "_law_lengths_here"] (spD K mg 3 m__law_room_rises) :=
 fn_make (k := 6) F sc__law_room_rises (by decide) fun cdv A outer s H E hr tk =>
 dss_cons (ds_setLc (i := 3) rfl sc__law_room_rises.nd rfl rfl (by rfl) (di_seq (de_var 1)) (blkOk_by (N := N__law_room_rises) (sc := defScope s__law_room_rises) (own := [("_law_one_here", 10)]) (by decide +kernel)) rfl (fun _ _ _ _ _ => dg_name (i := 10) sc__law_room_rises.nd rfl (Or.inl rfl)) (fun _ _ _ _ _ => de_call h__law_one (hr.mono (by decide)) takes0 (oa_cons (oe_var 0) (oa_cons (oe (de_fz (ne_lst (da_cons (de_non) (da_cons (de_int) (da_cons (de_int) (da_cons (de_int) (da_nil)))))))) (oa_nil)))))
 (dss_cons (ds_par (i := 4) (j := 5) rfl sc__law_room_rises.nd rfl rfl (by decide) rfl rfl (ma_d (de_call h__law_take (hr.mono (by decide)) tk (oa_cons (oe_var 0) (oa_cons (oe (de_int)) (oa_nil)))) (ma_d (de_call h__law_take (hr.mono (by decide)) tk (oa_cons (oe_var 0) (oa_cons (oe (de_callB call_len c_len (by rfl) T.n_len PySem.boot_len (oa_cons (oe_var 1) (oa_nil)))) (oa_nil)))) (ma_nil))))
 (dss_cons (ds_set (i := 6) (de_call h_room_row (hr.mono (by decide)) tk (oa_cons (oe (de_var 1)) (oa_cons (oe (de_var 2)) (oa_cons (oe (de_var 4)) (oa_cons (oe (de_var 3)) (oa_nil)))))) sc__law_room_rises.nd rfl (Or.inl rfl))
 (dss_cons (ds_setN (i := 7) (ne_lst (da_cons (de_call h_room_row (hr.mono (by decide)) tk (oa_cons (oe (de_call h__law_raised (hr.mono (by decide)) tk (oa_cons (oe_var 0) (oa_cons (oe (de_var 1)) (oa_cons (oe (de_var 5)) (oa_nil)))))) (oa_cons (oe (de_var 2)) (oa_cons (oe (de_var 4)) (oa_cons (oe (de_var 3)) (oa_nil)))))) (da_nil))) sc__law_room_rises.nd rfl (Or.inl rfl))
 (dss_cons (ds_expr (de_cellM (i := 7) g_app PySem.F.slot_list_append PySem.F.type_list_append mt_append (pv 7) rfl (da_cons (de_call h_room_row (hr.mono (by decide)) tk (oa_cons (oe (de_var 1)) (oa_cons (oe (de_call h__law_raised (hr.mono (by decide)) tk (oa_cons (oe_var 0) (oa_cons (oe (de_var 2)) (oa_cons (oe (de_var 5)) (oa_nil)))))) (oa_cons (oe (de_var 4)) (oa_cons (oe (de_var 3)) (oa_nil)))))) (da_nil))))
 (dss_cons (ds_expr (de_cellM (i := 7) g_app PySem.F.slot_list_append PySem.F.type_list_append mt_append (pv 7) rfl (da_cons (de_call h_room_row (hr.mono (by decide)) tk (oa_cons (oe (de_var 1)) (oa_cons (oe (de_var 2)) (oa_cons (oe (de_plus (oe_var 4) (oe (de_int)))) (oa_cons (oe (de_var 3)) (oa_nil)))))) (da_nil))))
 (dss_cons (ds_expr (de_cellM (i := 7) g_app PySem.F.slot_list_append PySem.F.type_list_append mt_append (pv 7) rfl (da_cons (de_call h_room_row (hr.mono (by decide)) tk (oa_cons (oe (de_var 1)) (oa_cons (oe (de_var 2)) (oa_cons (oe (de_var 4)) (oa_cons (oe (de_call h__law_raised (hr.mono (by decide)) tk (oa_cons (oe_var 0) (oa_cons (oe (de_var 3)) (oa_cons (oe (de_var 5)) (oa_nil)))))) (oa_nil)))))) (da_nil))))
 (dss_cons (ds_for (passes_of rfl) rfl (di_seq (de_var 7)) (dg_name (i := 8) sc__law_room_rises.nd rfl (Or.inl rfl))
  (dss_one (ds_if (dt_not (dt_tru (oe (de_call h__law_none_earlier (hr.mono (by decide)) tk (oa_cons (oe (de_var 6)) (oa_cons (oe (de_var 8)) (oa_nil)))))))
   (dss_one (ds_ret (de_bl)))
   (dss_nil))))
 (dss_cons (ds_set (i := 9) (de_call h_room_row (hr.mono (by decide)) tk (oa_cons (oe (de_fz (ne_slice (oe_var 1) (pt_none) (pt_some (oe_var 5))))) (oa_cons (oe (de_fz (ne_slice (oe_var 2) (pt_none) (pt_some (oe_var 5))))) (oa_cons (oe (de_var 4)) (oa_cons (oe (de_fz (ne_slice (oe_var 3) (pt_none) (pt_some (oe_var 5))))) (oa_nil)))))) sc__law_room_rises.nd rfl (Or.inl rfl))
 (dss_one (ds_ret (de_and (de_cmp (op_eqD hr.units) o2_eq (oe (de_fz (ne_lc rfl sc__law_room_rises.nd (di_seq (de_var 9)) (blkOk_by (N := N__law_room_rises) (sc := defScope s__law_room_rises) (own := [("_law_one_here", 10)]) (by decide +kernel)) rfl (fun _ _ _ _ _ => dg_name (i := 10) sc__law_room_rises.nd rfl (Or.inl rfl)) (fun _ _ _ _ _ => de_ix ix_seq o2_ix (oe_var 10) (oe (de_int)))))) (oe (de_fz (ne_lc rfl sc__law_room_rises.nd (di_seq (de_fz (ne_slice (oe_var 6) (pt_none) (pt_some (oe_var 5))))) (blkOk_by (N := N__law_room_rises) (sc := defScope s__law_room_rises) (own := [("_law_one_here", 10)]) (by decide +kernel)) rfl (fun _ _ _ _ _ => dg_name (i := 10) sc__law_room_rises.nd rfl (Or.inl rfl)) (fun _ _ _ _ _ => de_ix ix_seq o2_ix (oe_var 10) (oe (de_int)))))) (nomark _)) (de_one (de_cmp (op_eqD hr.units) o2_eq (oe (de_fz (ne_slice (oe_var 9) (pt_none) (pt_some (oe (de_un un_neg o1_neg (oe (de_int)))))))) (oe (de_fz (ne_slice (oe_var 6) (pt_none) (pt_some (oe (de_callB (call_max2 rfl) c_max (by rfl) T.n_max boot_max (oa_cons (oe (de_int)) (oa_cons (oe (de_bin op_sub o2_sub (oe (de_callTy call_int1 c_int (by rfl) T.n_int boot_int (oa_cons (oe_var 5) (oa_nil)))) (oe (de_int)))) (oa_nil))))))))) (nomark _))))))))))))))
abbrev N_law : List Str := ["_law_script", "_law_k", "_law_source", "_law_arrivals_here", "_law_lengths_here", "_law_turn", "_law_one_here"]
theorem sc_law : FnScope N_law ["_law_script"] (defScope s_law) := ⟨rfl, rfl, rfl, by decide +kernel, rfl, by decide +kernel, by decide +kernel⟩
theorem ok_law {f : Addr} {fd : FuncData} (F : Fun K "law" "law" s_law f fd) (T : Txt K mg) (h__law_rounds : Fnd P w K mg base "_law_rounds" 1 1 m__law_rounds []) (h__law_pool : Fnd P w K mg base "_law_pool" 1 2 m__law_pool []) (h__law_take : Fnd P w K mg base "_law_take" 1 2 m__law_take []) (h__law_one : Fnd P w K mg base "_law_one" 2 2 m__law_one []) (h__law_moment : Fnd P w K mg base "_law_moment" 2 2 m__law_moment []) (h__law_spans : Fnd P w K mg base "_law_spans" 3 1 m__law_spans []) (h__law_counter_rises : Fnd P w K mg base "_law_counter_rises" 8 4 m__law_counter_rises []) (h__law_room_rises : Fnd P w K mg base "_law_room_rises" 7 3 m__law_room_rises []) (h__law_meeting_rises : Fnd P w K mg base "_law_meeting_rises" 7 2 m__law_meeting_rises []) : FnOk P w K mg base (L2.CX P w) 9 f fd ["_law_script"] (spD K mg 1 m_law) :=
 fn_make (k := 8) F sc_law (by decide) fun cdv A outer s H E hr tk =>
 dss_cons (ds_for (passes_of rfl) rfl (di_seq (de_call h__law_rounds (hr.mono (by decide)) tk (oa_cons (oe (de_var 0)) (oa_nil)))) (dg_name (i := 1) sc_law.nd rfl (Or.inl rfl))
  (dss_cons (ds_setN (i := 2) (ne_call h__law_pool (hr.mono (by decide)) tk (oa_cons (oe (de_var 0)) (oa_cons (oe (de_var 1)) (oa_nil)))) sc_law.nd rfl (Or.inr rfl))
  (dss_cons (ds_setLc (i := 3) rfl sc_law.nd rfl rfl (by rfl) (di_range1 (by rfl) T.n_range (oe (de_plus (oe (de_int)) (oe (de_call h__law_take (hr.mono (by decide)) tk (oa_cons (oe_var 2) (oa_cons (oe (de_int)) (oa_nil)))))))) (blkOk_by (N := N_law) (sc := defScope s_law) (own := [("_law_turn", 5)]) (by decide +kernel)) rfl (fun _ _ _ _ _ => dg_name (i := 5) sc_law.nd rfl (Or.inl rfl)) (fun _ _ _ _ _ => de_call h__law_moment (hr.mono (by decide)) takes0 (oa_cons (oe_var 2) (oa_cons (oe (de_call h__law_one (hr.mono (by decide)) takes0 (oa_cons (oe_var 2) (oa_cons (oe (de_fz (ne_lst (da_cons (de_int) (da_cons (de_int) (da_nil)))))) (oa_nil))))) (oa_nil)))))
  (dss_cons (ds_setLc (i := 4) rfl sc_law.nd rfl rfl (by rfl) (di_seq (de_var 3)) (blkOk_by (N := N_law) (sc := defScope s_law) (own := [("_law_one_here", 6)]) (by decide +kernel)) rfl (fun _ _ _ _ _ => dg_name (i := 6) sc_law.nd rfl (Or.inl rfl)) (fun _ _ _ _ _ => de_call h__law_one (hr.mono (by decide)) takes0 (oa_cons (oe_var 2) (oa_cons (oe (de_fz (ne_lst (da_cons (de_int) (da_cons (de_int) (da_cons (de_int) (da_cons (de_int) (da_nil)))))))) (oa_nil)))))
  (dss_cons (ds_if (dt_not (dt_tru (oe (de_call h__law_counter_rises (hr.mono (by decide)) tk (oa_cons (oe_var 2) (oa_cons (oe (de_var 3)) (oa_cons (oe (de_var 4)) (oa_cons (oe (de_call h__law_spans (hr.mono (by decide)) tk (oa_cons (oe_var 2) (oa_nil)))) (oa_nil)))))))))
   (dss_one (ds_ret (de_bl)))
   (dss_nil))
  (dss_one (ds_if (dt_w (dw_or (dt_not (dt_tru (oe (de_call h__law_meeting_rises (hr.mono (by decide)) tk (oa_cons (oe_var 2) (oa_cons (oe (de_var 3)) (oa_nil))))))) (dw_or1 (dt_not (dt_tru (oe (de_call h__law_room_rises (hr.mono (by decide)) tk (oa_cons (oe_var 2) (oa_cons (oe (de_var 3)) (oa_cons (oe (de_var 4)) (oa_nil)))))))))))
   (dss_one (ds_ret (de_bl)))
   (dss_nil))))))))
 (dss_one (ds_ret (de_bl)))
end
theorem all_mk {P : Program} {w : World} {K : PySem.W.Frag} {h : Heap} {mg : Str → Option Value} {fa : Addr} (hs : Says m_law) (X : K.In h) (G : h.Ns mainGlobals mg) (hfa : mg "law" = some (.ref fa))
 {C_Hours : Addr}
 {t_DESKS_AT_MOST t_MOST_MINUTE t_MOST_SPANS : Tok}
 (a_Hours : PySem.W.nsIn K mainGlobals "Hours" = some (some (.ref C_Hours)))
 (hnG : PySem.W.specialIn K (.builtin "object.__class__") "__get__" = some (some (.builtin "getset_descriptor.__get__")))
 (htk : PySem.W.takesIn K (.builtin "object.__class__") = some true)
 (pg_Hours : PySem.W.plainGet K C_Hours Str.empty = true)
 (hd_Hours : PySem.W.hasDictIn K C_Hours = true)
 (po_Hours : PySem.W.plainOver K C_Hours = true)
 (sa_Hours : PySem.W.findIn K (.ref C_Hours) "__setattr__" = some (some (.builtin "object.__setattr__")))
 (ha_Hours : PySem.W.findIn K (.ref C_Hours) "__class__" = some (some (.builtin "object.__class__")))
 (hm_Hours : PySem.W.mroIn K C_Hours (.type "object") = some true)
 (nb_bool_Hours : PySem.W.subIn K (.ref C_Hours) (.type "bool") = some false)
 (nb_int_Hours : PySem.W.subIn K (.ref C_Hours) (.type "int") = some false)
 (nb_str_Hours : PySem.W.subIn K (.ref C_Hours) (.type "str") = some false)
 (nb_list_Hours : PySem.W.subIn K (.ref C_Hours) (.type "list") = some false)
 (nb_tuple_Hours : PySem.W.subIn K (.ref C_Hours) (.type "tuple") = some false)
 (nb_dict_Hours : PySem.W.subIn K (.ref C_Hours) (.type "dict") = some false)
 (ic_Hours : PySem.W.isClsIn K C_Hours = true)
 (tc_Hours : PySem.W.typeIn K (.ref C_Hours) = some (.type "type"))
 (ib_NoneType_Hours : PySem.W.subIn K (.type "NoneType") (.ref C_Hours) = some false)
 (ib_bool_Hours : PySem.W.subIn K (.type "bool") (.ref C_Hours) = some false)
 (ib_int_Hours : PySem.W.subIn K (.type "int") (.ref C_Hours) = some false)
 (ib_str_Hours : PySem.W.subIn K (.type "str") (.ref C_Hours) = some false)
 (ib_list_Hours : PySem.W.subIn K (.type "list") (.ref C_Hours) = some false)
 (ib_tuple_Hours : PySem.W.subIn K (.type "tuple") (.ref C_Hours) = some false)
 (ib_dict_Hours : PySem.W.subIn K (.type "dict") (.ref C_Hours) = some false)
 (mk_Hours : PySem.W.makesIn K C_Hours = true)
 (kc_Hours : PySem.W.keepIn K (.ref C_Hours) = true)
 (na_Hours_own_spans : PySem.W.findIn K (.ref C_Hours) "own_spans" = some none)
 (z_all : PySem.W.nsIn K mainGlobals "all" = some none)
 (z_any : PySem.W.nsIn K mainGlobals "any" = some none)
 (z_bool : PySem.W.nsIn K mainGlobals "bool" = some none)
 (z_enumerate : PySem.W.nsIn K mainGlobals "enumerate" = some none)
 (z_int : PySem.W.nsIn K mainGlobals "int" = some none)
 (z_isinstance : PySem.W.nsIn K mainGlobals "isinstance" = some none)
 (z_len : PySem.W.nsIn K mainGlobals "len" = some none)
 (z_list : PySem.W.nsIn K mainGlobals "list" = some none)
 (z_max : PySem.W.nsIn K mainGlobals "max" = some none)
 (z_min : PySem.W.nsIn K mainGlobals "min" = some none)
 (z_range : PySem.W.nsIn K mainGlobals "range" = some none)
 (z_sorted : PySem.W.nsIn K mainGlobals "sorted" = some none)
 (z_tuple : PySem.W.nsIn K mainGlobals "tuple" = some none)
 (z_zip : PySem.W.nsIn K mainGlobals "zip" = some none)
 (q_DESKS_AT_MOST : PySem.W.nsIn K mainGlobals "DESKS_AT_MOST" = some (some (.int 3 t_DESKS_AT_MOST)))
 (q_MOST_MINUTE : PySem.W.nsIn K mainGlobals "MOST_MINUTE" = some (some (.int 9999 t_MOST_MINUTE)))
 (q_MOST_SPANS : PySem.W.nsIn K mainGlobals "MOST_SPANS" = some (some (.int 4 t_MOST_SPANS)))
 (d__law_rounds : DatG K "_law_rounds" s__law_rounds)
 (d__law_pool : DatG K "_law_pool" s__law_pool)
 (d__law_take : DatG K "_law_take" s__law_take)
 (d__law_moment : DatG K "_law_moment" s__law_moment)
 (d__law_one : DatG K "_law_one" s__law_one)
 (d_is_list : DatG K "is_list" s_is_list)
 (d_is_integer : DatG K "is_integer" s_is_integer)
 (d_is_between : DatG K "is_between" s_is_between)
 (d_is_minute : DatG K "is_minute" s_is_minute)
 (d_is_span : DatG K "is_span" s_is_span)
 (d_is_hours : DatG K "is_hours" s_is_hours)
 (d_Hours___init__ : DatMD K C_Hours "__init__" "Hours.__init__" s_Hours___init__ [.non])
 (d_is_count : DatG K "is_count" s_is_count)
 (d_is_moment : DatG K "is_moment" s_is_moment)
 (d_check_moments : DatG K "check_moments" s_check_moments)
 (d_check_counts : DatG K "check_counts" s_check_counts)
 (d_check_desks : DatG K "check_desks" s_check_desks)
 (d_check_hours : DatG K "check_hours" s_check_hours)
 (d_Hours_gate_at : DatM K C_Hours "gate_at" "Hours.gate_at" s_Hours_gate_at)
 (d_latest_of : DatG K "latest_of" s_latest_of)
 (d_so_many_th : DatG K "so_many_th" s_so_many_th)
 (d_free_desk : DatG K "free_desk" s_free_desk)
 (d_desk_begin : DatG K "desk_begin" s_desk_begin)
 (d_moment_sum : DatG K "moment_sum" s_moment_sum)
 (d_counter_row : DatG K "counter_row" s_counter_row)
 (d__law_raised : DatG K "_law_raised" s__law_raised)
 (d_check_one_moment : DatG K "check_one_moment" s_check_one_moment)
 (d_is_less : DatG K "is_less" s_is_less)
 (d_is_earlier : DatG K "is_earlier" s_is_earlier)
 (d__law_none_earlier : DatG K "_law_none_earlier" s__law_none_earlier)
 (d__law_spans : DatG K "_law_spans" s__law_spans)
 (d_is_within : DatG K "is_within" s_is_within)
 (d_Hours___le__ : DatM K C_Hours "__le__" "Hours.__le__" s_Hours___le__)
 (d__law_counter_rises : DatG K "_law_counter_rises" s__law_counter_rises)
 (d_check_whole : DatG K "check_whole" s_check_whole)
 (d_check_quorum : DatG K "check_quorum" s_check_quorum)
 (d_meet_begin : DatG K "meet_begin" s_meet_begin)
 (d_meet_end : DatG K "meet_end" s_meet_end)
 (d_meeting_row : DatG K "meeting_row" s_meeting_row)
 (d__law_meeting_rises : DatG K "_law_meeting_rises" s__law_meeting_rises)
 (d_check_notices : DatG K "check_notices" s_check_notices)
 (d_turned_begin : DatG K "turned_begin" s_turned_begin)
 (d_first_of : DatG K "first_of" s_first_of)
 (d_early_end : DatG K "early_end" s_early_end)
 (d_room_row : DatG K "room_row" s_room_row)
 (d__law_room_rises : DatG K "_law_room_rises" s__law_room_rises)
 (d_law : DatG K "law" s_law)
 : ∃ fd : FuncData, (∀ (s : Shared) (v : Value), BindsTo s fd ⟨[v], []⟩ [("_law_script", v)]) ∧ ∀ base : Heap, K.In base → base.Ns mainGlobals mg → FnOk P w K mg base (L2.CX P w) 9 fa fd ["_law_script"] (spLaw K) := by
  have g_Hours := PySem.W.mg_of X G a_Hours
  have cl_Hours : Cls K C_Hours := ⟨pg_Hours, hd_Hours, po_Hours, sa_Hours⟩
  have T : Txt K mg := {
    isi := { fn := PySem.W.mg_none_of X G z_isinstance
             ins := fun nm hn => (List.mem_cons.mp hn).elim (fun e => by subst e; exact ⟨_, g_Hours, ⟨cl_Hours, ha_Hours, hnG, htk, hm_Hours⟩, ⟨nb_bool_Hours, nb_int_Hours, nb_str_Hours, nb_list_Hours, nb_tuple_Hours, nb_dict_Hours⟩⟩) (fun hn => absurd hn (by simp))
             asked := fun nm hn => (List.mem_cons.mp hn).elim (fun e => by subst e; exact ⟨_, g_Hours, ⟨ic_Hours, tc_Hours, ib_NoneType_Hours, ib_bool_Hours, ib_int_Hours, ib_str_Hours, ib_list_Hours, ib_tuple_Hours, ib_dict_Hours⟩⟩) (fun hn => absurd hn (by simp))
             own := fun p hp => by cases hp }
    n_all := PySem.W.mg_none_of X G z_all
    n_any := PySem.W.mg_none_of X G z_any
    n_bool := PySem.W.mg_none_of X G z_bool
    n_enumerate := PySem.W.mg_none_of X G z_enumerate
    n_int := PySem.W.mg_none_of X G z_int
    n_len := PySem.W.mg_none_of X G z_len
    n_list := PySem.W.mg_none_of X G z_list
    n_max := PySem.W.mg_none_of X G z_max
    n_min := PySem.W.mg_none_of X G z_min
    n_range := PySem.W.mg_none_of X G z_range
    n_sorted := PySem.W.mg_none_of X G z_sorted
    n_tuple := PySem.W.mg_none_of X G z_tuple
    n_zip := PySem.W.mg_none_of X G z_zip
    c_DESKS_AT_MOST := ⟨_, PySem.W.mg_of X G q_DESKS_AT_MOST⟩
    c_MOST_MINUTE := ⟨_, PySem.W.mg_of X G q_MOST_MINUTE⟩
    c_MOST_SPANS := ⟨_, PySem.W.mg_of X G q_MOST_SPANS⟩
    f_own_spans := fun nm hn => (List.mem_cons.mp hn).elim (fun e => by subst e; exact ⟨_, g_Hours, cl_Hours, na_Hours_own_spans⟩) (fun hn => absurd hn (by simp))
    k_Hours := ⟨_, g_Hours⟩
  }
  obtain ⟨fl, fdl, al, Fl⟩ := d_law.ex
  have el := hfa.symm.trans (PySem.W.mg_of X G al)
  cases el
  have Fl0 := Fl
  obtain ⟨oc, od, kV, doc, pm, an, cdv, ct, osl, rfl, lk, hcd⟩ := Fl.ex
  refine ⟨PySem.W.fnOf "law" "law" (defArgs s_law) (defBody s_law) (defScope s_law) .none kV doc pm an cdv ct, fun s v => .of_eq rfl, fun base _ _ => ?_⟩
  have h__law_rounds : Fnd P w K mg base "_law_rounds" 1 1 m__law_rounds [] := fnd_of (ps := ["_law_script"]) X G d__law_rounds (fun _ _ _ _ _ _ us hl => match us, hl with | [_], _ => rfl) (fun F => ok__law_rounds F T)
  have h__law_pool : Fnd P w K mg base "_law_pool" 1 2 m__law_pool [] := fnd_of (ps := ["_law_script", "_law_k"]) X G d__law_pool (fun _ _ _ _ _ _ us hl => match us, hl with | [_, _], _ => rfl) (fun F => ok__law_pool F T)
  have h__law_take : Fnd P w K mg base "_law_take" 1 2 m__law_take [] := fnd_of (ps := ["_law_source", "_law_top"]) X G d__law_take (fun _ _ _ _ _ _ us hl => match us, hl with | [_, _], _ => rfl) (fun F => ok__law_take F T)
  have h__law_moment : Fnd P w K mg base "_law_moment" 2 2 m__law_moment [] := fnd_of (ps := ["_law_source", "_law_most"]) X G d__law_moment (fun _ _ _ _ _ _ us hl => match us, hl with | [_, _], _ => rfl) (fun F => ok__law_moment F T h__law_take)
  have h__law_one : Fnd P w K mg base "_law_one" 2 2 m__law_one [] := fnd_of (ps := ["_law_source", "_law_things"]) X G d__law_one (fun _ _ _ _ _ _ us hl => match us, hl with | [_, _], _ => rfl) (fun F => ok__law_one F T h__law_take)
  have h_is_list : Fnd P w K mg base "is_list" 1 1 m_is_list [] := fnd_of (ps := ["value"]) X G d_is_list (fun _ _ _ _ _ _ us hl => match us, hl with | [_], _ => rfl) (fun F => ok_is_list F T)
  have h_is_integer : Fnd P w K mg base "is_integer" 1 1 m_is_integer [] := fnd_of (ps := ["value"]) X G d_is_integer (fun _ _ _ _ _ _ us hl => match us, hl with | [_], _ => rfl) (fun F => ok_is_integer F T)
  have h_is_between : Fnd P w K mg base "is_between" 2 3 m_is_between [] := fnd_of (ps := ["value", "least", "most"]) X G d_is_between (fun _ _ _ _ _ _ us hl => match us, hl with | [_, _, _], _ => rfl) (fun F => ok_is_between F T h_is_integer)
  have h_is_minute : Fnd P w K mg base "is_minute" 3 1 m_is_minute [] := fnd_of (ps := ["value"]) X G d_is_minute (fun _ _ _ _ _ _ us hl => match us, hl with | [_], _ => rfl) (fun F => ok_is_minute F T h_is_between)
  have h_is_span : Fnd P w K mg base "is_span" 4 1 m_is_span [] := fnd_of (ps := ["value"]) X G d_is_span (fun _ _ _ _ _ _ us hl => match us, hl with | [_], _ => rfl) (fun F => ok_is_span F T h_is_minute)
  have h_is_hours : Fnd P w K mg base "is_hours" 5 1 m_is_hours [] := fnd_of (ps := ["value"]) X G d_is_hours (fun _ _ _ _ _ _ us hl => match us, hl with | [_], _ => rfl) (fun F => ok_is_hours F T h_is_span h_is_list)
  have h_Hours___init__ : Mkd P w K mg base "Hours" 6 2 m_Hours___init__ [] := mkd_ofD (ps := ["self", "spans"]) 2 1 g_Hours mk_Hours kc_Hours d_Hours___init__ (by simp) rfl (fun _ _ _ _ _ _ _ us its hl hi => match us, its, hl, hi with | [_, _], [_], _, _ => ⟨_, rfl, rfl⟩) (fun _ => .nil) (fun F => ok_Hours___init__ F T h_is_hours)
  have h_is_count : Fnd P w K mg base "is_count" 2 1 m_is_count [] := fnd_of (ps := ["value"]) X G d_is_count (fun _ _ _ _ _ _ us hl => match us, hl with | [_], _ => rfl) (fun F => ok_is_count F T h_is_integer)
  have h_is_moment : Fnd P w K mg base "is_moment" 3 1 m_is_moment [] := fnd_of (ps := ["value"]) X G d_is_moment (fun _ _ _ _ _ _ us hl => match us, hl with | [_], _ => rfl) (fun F => ok_is_moment F T h_is_count)
  have h_check_moments : Fnd P w K mg base "check_moments" 4 2 m_check_moments [] := fnd_of (ps := ["word", "value"]) X G d_check_moments (fun _ _ _ _ _ _ us hl => match us, hl with | [_, _], _ => rfl) (fun F => ok_check_moments F T h_is_moment h_is_list)
  have h_check_counts : Fnd P w K mg base "check_counts" 3 3 m_check_counts [] := fnd_of (ps := ["word", "value", "many"]) X G d_check_counts (fun _ _ _ _ _ _ us hl => match us, hl with | [_, _, _], _ => rfl) (fun F => ok_check_counts F T h_is_count h_is_list)
  have h_check_desks : Fnd P w K mg base "check_desks" 3 1 m_check_desks [] := fnd_of (ps := ["desks"]) X G d_check_desks (fun _ _ _ _ _ _ us hl => match us, hl with | [_], _ => rfl) (fun F => ok_check_desks F T h_is_between)
  have h_check_hours : Fnd P w K mg base "check_hours" 1 1 m_check_hours [] := fnd_of (ps := ["hours"]) X G d_check_hours (fun _ _ _ _ _ _ us hl => match us, hl with | [_], _ => rfl) (fun F => ok_check_hours F T)
  have h_Hours_gate_at : Mtd P w K mg base "Hours" "gate_at" 1 3 m_Hours_gate_at [] := mtd_of (ps := ["self", "n", "t"]) g_Hours cl_Hours d_Hours_gate_at (fun _ _ _ _ _ _ us hl => match us, hl with | [_, _, _], _ => rfl) (fun F => ok_Hours_gate_at F T)
  have h_latest_of : Fnd P w K mg base "latest_of" 1 1 m_latest_of [] := fnd_of (ps := ["moments"]) X G d_latest_of (fun _ _ _ _ _ _ us hl => match us, hl with | [_], _ => rfl) (fun F => ok_latest_of F T)
  have h_so_many_th : Fnd P w K mg base "so_many_th" 1 2 m_so_many_th [] := fnd_of (ps := ["moments", "n"]) X G d_so_many_th (fun _ _ _ _ _ _ us hl => match us, hl with | [_, _], _ => rfl) (fun F => ok_so_many_th F T)
  have h_free_desk : Fnd P w K mg base "free_desk" 2 2 m_free_desk [] := fnd_of (ps := ["ends", "desks"]) X G d_free_desk (fun _ _ _ _ _ _ us hl => match us, hl with | [_, _], _ => rfl) (fun F => ok_free_desk F T h_so_many_th)
  have h_desk_begin : Fnd P w K mg base "desk_begin" 3 6 m_desk_begin [] := fnd_of (ps := ["arrival", "begin_ahead", "ends_ahead", "desks", "hours", "n"]) X G d_desk_begin (fun _ _ _ _ _ _ us hl => match us, hl with | [_, _, _, _, _, _], _ => rfl) (fun F => ok_desk_begin F T h_free_desk h_latest_of h_Hours_gate_at)
  have h_moment_sum : Fnd P w K mg base "moment_sum" 1 2 m_moment_sum [] := fnd_of (ps := ["moment", "more"]) X G d_moment_sum (fun _ _ _ _ _ _ us hl => match us, hl with | [_, _], _ => rfl) (fun F => ok_moment_sum F T)
  have h_counter_row : Fnd P w K mg base "counter_row" 5 4 m_counter_row [] := fnd_of (ps := ["arrivals", "lengths", "desks", "hours"]) X G d_counter_row (fun _ _ _ _ _ _ us hl => match us, hl with | [_, _, _, _], _ => rfl) (fun F => ok_counter_row F T h_check_moments h_check_counts h_check_desks h_check_hours h_desk_begin h_moment_sum)
  have h__law_raised : Fnd P w K mg base "_law_raised" 2 3 m__law_raised [] := fnd_of (ps := ["_law_source", "_law_some", "_law_at"]) X G d__law_raised (fun _ _ _ _ _ _ us hl => match us, hl with | [_, _, _], _ => rfl) (fun F => ok__law_raised F T h__law_take)
  have h_check_one_moment : Fnd P w K mg base "check_one_moment" 4 1 m_check_one_moment [] := fnd_of (ps := ["value"]) X G d_check_one_moment (fun _ _ _ _ _ _ us hl => match us, hl with | [_], _ => rfl) (fun F => ok_check_one_moment F T h_is_moment)
  have h_is_less : Fnd P w K mg base "is_less" 1 2 m_is_less [] := fnd_of (ps := ["one", "other"]) X G d_is_less (fun _ _ _ _ _ _ us hl => match us, hl with | [_, _], _ => rfl) (fun F => ok_is_less F T)
  have h_is_earlier : Fnd P w K mg base "is_earlier" 5 2 m_is_earlier [] := fnd_of (ps := ["one", "other"]) X G d_is_earlier (fun _ _ _ _ _ _ us hl => match us, hl with | [_, _], _ => rfl) (fun F => ok_is_earlier F T h_check_one_moment h_is_less)
  have h__law_none_earlier : Fnd P w K mg base "_law_none_earlier" 6 2 m__law_none_earlier [] := fnd_of (ps := ["_law_row", "_law_later"]) X G d__law_none_earlier (fun _ _ _ _ _ _ us hl => match us, hl with | [_, _], _ => rfl) (fun F => ok__law_none_earlier F T h_is_earlier)
  have h__law_spans : Fnd P w K mg base "_law_spans" 3 1 m__law_spans [] := fnd_of (ps := ["_law_source"]) X G d__law_spans (fun _ _ _ _ _ _ us hl => match us, hl with | [_], _ => rfl) (fun F => ok__law_spans F T h__law_take h__law_one)
  have h_is_within : Fnd P w K mg base "is_within" 1 2 m_is_within [] := fnd_of (ps := ["span", "spans"]) X G d_is_within (fun _ _ _ _ _ _ us hl => match us, hl with | [_, _], _ => rfl) (fun F => ok_is_within F T)
  have h_Hours___le__ : CmpOwn P w K mg base "Hours" .LtE 2 m_Hours___le__ := cmp_of (ps := ["self", "other"]) g_Hours d_Hours___le__ rfl rfl (fun _ _ _ _ _ _ us hl => match us, hl with | [_, _], _ => rfl) (fun F => ok_Hours___le__ F T h_is_within)
  have h__law_counter_rises : Fnd P w K mg base "_law_counter_rises" 8 4 m__law_counter_rises [] := fnd_of (ps := ["_law_source", "_law_arrivals_here", "_law_lengths_here", "_law_spans_here"]) X G d__law_counter_rises (fun _ _ _ _ _ _ us hl => match us, hl with | [_, _, _, _], _ => rfl) (fun F => ok__law_counter_rises F T h__law_take h_Hours___init__ h_counter_row h__law_raised h__law_none_earlier h__law_spans h_Hours___le__)
  have h_check_whole : Fnd P w K mg base "check_whole" 3 1 m_check_whole [] := fnd_of (ps := ["value"]) X G d_check_whole (fun _ _ _ _ _ _ us hl => match us, hl with | [_], _ => rfl) (fun F => ok_check_whole F T h_is_count)
  have h_check_quorum : Fnd P w K mg base "check_quorum" 3 2 m_check_quorum [] := fnd_of (ps := ["quorum", "arrivals"]) X G d_check_quorum (fun _ _ _ _ _ _ us hl => match us, hl with | [_, _], _ => rfl) (fun F => ok_check_quorum F T h_is_between)
  have h_meet_begin : Fnd P w K mg base "meet_begin" 2 3 m_meet_begin [] := fnd_of (ps := ["opens", "arrivals", "quorum"]) X G d_meet_begin (fun _ _ _ _ _ _ us hl => match us, hl with | [_, _, _], _ => rfl) (fun F => ok_meet_begin F T h_so_many_th h_latest_of)
  have h_meet_end : Fnd P w K mg base "meet_end" 2 3 m_meet_end [] := fnd_of (ps := ["begin", "length", "arrival"]) X G d_meet_end (fun _ _ _ _ _ _ us hl => match us, hl with | [_, _, _], _ => rfl) (fun F => ok_meet_end F T h_moment_sum h_latest_of)
  have h_meeting_row : Fnd P w K mg base "meeting_row" 5 4 m_meeting_row [] := fnd_of (ps := ["opens", "length", "quorum", "arrivals"]) X G d_meeting_row (fun _ _ _ _ _ _ us hl => match us, hl with | [_, _, _, _], _ => rfl) (fun F => ok_meeting_row F T h_check_whole h_check_moments h_check_quorum h_meet_begin h_meet_end)
  have h__law_meeting_rises : Fnd P w K mg base "_law_meeting_rises" 7 2 m__law_meeting_rises [] := fnd_of (ps := ["_law_source", "_law_arrivals_here"]) X G d__law_meeting_rises (fun _ _ _ _ _ _ us hl => match us, hl with | [_, _], _ => rfl) (fun F => ok__law_meeting_rises F T h__law_take h_meeting_row h__law_raised h__law_none_earlier)
  have h_check_notices : Fnd P w K mg base "check_notices" 3 2 m_check_notices [] := fnd_of (ps := ["notices", "many"]) X G d_check_notices (fun _ _ _ _ _ _ us hl => match us, hl with | [_, _], _ => rfl) (fun F => ok_check_notices F T h_is_count h_is_list)
  have h_turned_begin : Fnd P w K mg base "turned_begin" 2 3 m_turned_begin [] := fnd_of (ps := ["arrival", "end_ahead", "turn"]) X G d_turned_begin (fun _ _ _ _ _ _ us hl => match us, hl with | [_, _, _], _ => rfl) (fun F => ok_turned_begin F T h_moment_sum h_latest_of)
  have h_first_of : Fnd P w K mg base "first_of" 2 1 m_first_of [] := fnd_of (ps := ["moments"]) X G d_first_of (fun _ _ _ _ _ _ us hl => match us, hl with | [_], _ => rfl) (fun F => ok_first_of F T h_is_less)
  have h_early_end : Fnd P w K mg base "early_end" 3 4 m_early_end [] := fnd_of (ps := ["begin", "n", "notice", "behind"]) X G d_early_end (fun _ _ _ _ _ _ us hl => match us, hl with | [_, _, _, _], _ => rfl) (fun F => ok_early_end F T h_latest_of h_moment_sum h_first_of)
  have h_room_row : Fnd P w K mg base "room_row" 5 4 m_room_row [] := fnd_of (ps := ["arrivals", "lengths", "turn", "notices"]) X G d_room_row (fun _ _ _ _ _ _ us hl => match us, hl with | [_, _, _, _], _ => rfl) (fun F => ok_room_row F T h_check_moments h_check_counts h_check_whole h_check_notices h_turned_begin h_moment_sum h_early_end)
  have h__law_room_rises : Fnd P w K mg base "_law_room_rises" 7 3 m__law_room_rises [] := fnd_of (ps := ["_law_source", "_law_arrivals_here", "_law_lengths_here"]) X G d__law_room_rises (fun _ _ _ _ _ _ us hl => match us, hl with | [_, _, _], _ => rfl) (fun F => ok__law_room_rises F T h__law_one h__law_take h_room_row h__law_raised h__law_none_earlier)
  exact law_ok (ok_law Fl0 T h__law_rounds h__law_pool h__law_take h__law_one h__law_moment h__law_spans h__law_counter_rises h__law_room_rises h__law_meeting_rises) hs
theorem walk {l : PySem.W.OpenLaw} {q : Program} {loose : List Str} {XP : (Str → Option Value) → Heap → Prop} {YP : World → Heap → Prop} {d : DefRec} {K : Params → PySem.W.Frag} (hn : l.most = some 63) (hdf : d.params.defaults = [])
    (hY : ∀ (w : World) (h : Heap), YP w h → (K w.params).In h)
    (F : ∀ (w : World) (mg : Str → Option Value) (fa : Addr) (h : Heap), (K w.params).In h → h.Ns mainGlobals mg → mg d.name = some (.ref fa) →
      ∃ fd : FuncData, (∀ (s : Shared) (u : Value), BindsTo s fd ⟨[u], []⟩ [("_law_script", u)]) ∧ ∀ base : Heap, (K w.params).In base → base.Ns mainGlobals mg → FnOk l.prog w (K w.params) mg base (L2.CX l.prog w) 9 fa fd ["_law_script"] (spLaw (K w.params))) :
    PySem.W.WalkO q loose XP YP l.row.toRowW d [] (fun f vs => PySem.call f vs) :=
  L2.walk_of (n := 63) (k := 9) (x := "_law_script") (CX := fun w => L2.CX l.prog w) (sp := fun w => spLaw (K w.params)) hn (by decide) hdf ⟨rfl, by decide, by decide⟩ hY F (fun _ _ a ns hl _ hS => ⟨a, ns, rfl, hS, hl, fun _ => rfl⟩) fun _ H s e s' z => cx_end H s e s' z
end K15

namespace K15
open PySem PySem.Spec PyProof.Rows L2 DL
theorem isI_int {i : Int} : isI [.int] (.int i) = some (.bl true) := rfl
theorem isI_int_bl {i : Int} : isI [.bl] (.int i) = some (.bl false) := rfl
theorem isI_list {l : List D} : isI [.lst, .tup] (.lst l) = some (.bl true) := rfl
theorem isI_tup {l : List D} : isI [.tup] (.tup l) = some (.bl true) := rfl
theorem isI_hours {fs : List (Str × D)} : isI [.own "Hours"] (.ins "Hours" fs) = some (.bl true) := rfl
/-! ### moments -/
abbrev Mo := Option Int
def mD : Mo → D
  | none => .non
  | some i => .int i
@[simp] theorem mD_none : mD none = .non := rfl
@[simp] theorem mD_some {i : Int} : mD (some i) = .int i := rfl
def OkM (m : Mo) : Prop := ∀ i, m = some i → 0 ≤ i
def ltM : Mo → Mo → Bool
  | none, _ => false
  | some _, none => true
  | some i, some j => decide (i < j)
def addM (m : Mo) (k : Int) : Mo := m.map (· + k)
/-! ### the checks -/
theorem v_is_integer {i : Int} : ∃ o, m_is_integer [.t (.int i)] = .ok (.bl true) o := by simp [m_is_integer, isI_int, isI_int_bl]
theorem v_is_count {i : Int} (h : 0 ≤ i) : ∃ o, m_is_count [.t (.int i)] = .ok (.bl true) o := by
  obtain ⟨o, e⟩ := v_is_integer (i := i)
  simp [m_is_count, e, h]
theorem v_is_moment {m : Mo} (h : OkM m) : ∃ o, m_is_moment [.t (mD m)] = .ok (.bl true) o := by
  cases m with
  | none => simp [m_is_moment]
  | some i =>
    obtain ⟨o, e⟩ := v_is_count (h i rfl)
    simp [m_is_moment, e]
theorem v_is_list {l : List D} : ∃ o, m_is_list [.t (.lst l)] = .ok (.bl true) o := by simp [m_is_list, isI_list]
theorem v_is_between {i a b : Int} (h : a ≤ i) (h2 : i ≤ b) : ∃ o, m_is_between [.t (.int i), .t (.int a), .t (.int b)] = .ok (.bl true) o := by
  obtain ⟨o, e⟩ := v_is_integer (i := i)
  simp [m_is_between, e, h, h2]
theorem v_is_minute {i : Int} (h : 0 ≤ i) (h2 : i ≤ 9999) : ∃ o, m_is_minute [.t (.int i)] = .ok (.bl true) o := by
  obtain ⟨o, e⟩ := v_is_between h h2
  simp [m_is_minute, e]
theorem v_check_one_moment {m : Mo} (h : OkM m) : ∃ o, m_check_one_moment [.t (mD m)] = .ok .non o := by
  obtain ⟨o, e⟩ := v_is_moment h
  simp [m_check_one_moment, e]
theorem v_check_whole {i : Int} (h : 0 ≤ i) : ∃ o, m_check_whole [.t (.int i)] = .ok .non o := by
  obtain ⟨o, e⟩ := v_is_count h
  simp [m_check_whole, e]
theorem v_check_desks {i : Int} (h : 1 ≤ i) (h2 : i ≤ 3) : ∃ o, m_check_desks [.t (.int i)] = .ok .non o := by
  obtain ⟨o, e⟩ := v_is_between h h2
  simp [m_check_desks, e]
/-- a comprehension that makes one datum of each item, and leaves the slots as they were -/
theorem comp_map {α : Type} {g : D → EnvD → Option EnvD} {e : EnvD → Rs D} {vs : List Nat} {ρ : EnvD} {f h : α → D} : ∀ {l : List α}, (∀ x ∈ l, ∃ ρ1, g (f x) ρ = some ρ1 ∧ e ρ1 = .ok (h x) ρ1 ∧ wipeD ρ1 vs = ρ) → compL g tYesB e vs (l.map f) ρ = .ok (l.map h) ρ
  | [], _ => rfl
  | x :: l, k => by
    obtain ⟨ρ1, h1, h2, h3⟩ := k x List.mem_cons_self
    exact compL_yes h1 rfl h2 (by rw [h3]; exact comp_map fun y hy => k y (List.mem_cons_of_mem _ hy))
theorem bls_true {α : Type} (l : List α) : blsOf (l.map fun _ => D.bl true) = some (l.map fun _ => true) := blsOf_map (f := fun _ => true)
theorem all_true {α : Type} (l : List α) : (l.all fun _ => true) = true := by simp
theorem v_check_moments {w : Str} {ms : List Mo} (h : ∀ m ∈ ms, OkM m) (hl : ms.length ≤ 1000) : ∃ o, m_check_moments [.t (.str w), .t (.lst (ms.map mD))] = .ok .non o := by
  obtain ⟨o, e⟩ := v_is_list (l := ms.map mD)
  have hc := comp_map (g := gN 2) (e := callD 1 m_is_moment [] (oCons (pE (eVar 2)) oNil)) (vs := [2]) (ρ := [.t (.str w), .t (.lst (ms.map mD)), .no]) (f := mD) (h := fun _ => .bl true) (l := ms) fun m hm => by
    obtain ⟨o, e⟩ := v_is_moment (h m hm)
    exact ⟨[.t (.str w), .t (.lst (ms.map mD)), .t (mD m)], by simp, by simp [e], by simp⟩
  simp [m_check_moments, e, hc, bls_true, Nat.le_trans hl (by decide : 1000 ≤ 100000), all_true]
theorem eqv_int {i j : Int} : eqvD (.int i) (.int j) = decide (i = j) := by
  unfold eqvD toPy
  simp [PyData.eqv]
  rw [Bool.eq_iff_iff]
  simp
@[simp] theorem eqD_int {i j : Int} : eqD (.int i) (.int j) = some (.bl (decide (i = j))) := by
  unfold eqD
  rw [if_pos ⟨rfl, rfl⟩, eqv_int]
@[simp] theorem neD_int {i j : Int} : neD (.int i) (.int j) = some (.bl (!decide (i = j))) := by
  unfold neD
  rw [if_pos ⟨rfl, rfl⟩, eqv_int]
theorem v_check_counts {w : Str} {ls : List Int} (h : ∀ m ∈ ls, 0 ≤ m) (hl : ls.length ≤ 1000) : ∃ o, m_check_counts [.t (.str w), .t (.lst (ls.map D.int)), .t (.int ls.length)] = .ok .non o := by
  obtain ⟨o, e⟩ := v_is_list (l := ls.map D.int)
  have hc := comp_map (g := gN 3) (e := callD 1 m_is_count [] (oCons (pE (eVar 3)) oNil)) (vs := [3]) (ρ := [.t (.str w), .t (.lst (ls.map D.int)), .t (.int ls.length), .no]) (f := D.int) (h := fun _ => .bl true) (l := ls) fun m hm => by
    obtain ⟨o, e⟩ := v_is_count (h m hm)
    exact ⟨[.t (.str w), .t (.lst (ls.map D.int)), .t (.int ls.length), .t (.int m)], by simp, by simp [e], by simp⟩
  simp [m_check_counts, e, hc, bls_true, Nat.le_trans hl (by decide : 1000 ≤ 100000), all_true]
theorem v_check_notices {ms : List Mo} (h : ∀ m ∈ ms, OkM m) (hl : ms.length ≤ 1000) : ∃ o, m_check_notices [.t (.lst (ms.map mD)), .t (.int ms.length)] = .ok .non o := by
  obtain ⟨o, e⟩ := v_is_list (l := ms.map mD)
  have hc := comp_map (g := gN 2) (e := eOr (eOp2 isD (pV 2) (pE (eC .non))) (callD 1 m_is_count [] (oCons (pE (eVar 2)) oNil))) (vs := [2]) (ρ := [.t (.lst (ms.map mD)), .t (.int ms.length), .no]) (f := mD) (h := fun _ => .bl true) (l := ms) fun m hm => by
    cases m with
    | none => exact ⟨[.t (.lst (ms.map mD)), .t (.int ms.length), .t .non], by simp, by simp, by simp⟩
    | some i =>
      obtain ⟨o, e⟩ := v_is_count (h _ hm i rfl)
      exact ⟨[.t (.lst (ms.map mD)), .t (.int ms.length), .t (.int i)], by simp, by simp [e], by simp⟩
  simp [m_check_notices, e, hc, bls_true, Nat.le_trans hl (by decide : 1000 ≤ 100000), all_true]
theorem v_check_quorum {q : Int} {ms : List D} (h : 1 ≤ q) (h2 : q ≤ ms.length) : ∃ o, m_check_quorum [.t (.int q), .t (.lst ms)] = .ok .non o := by
  obtain ⟨o, e⟩ := v_is_between h h2
  simp [m_check_quorum, e]
theorem v_check_hours {fs : List (Str × D)} : ∃ o, m_check_hours [.t (.ins "Hours" fs)] = .ok .non o := by simp [m_check_hours, isI_hours]
/-! ### less, sums, latest, first -/
theorem v_is_less {a b : Mo} : ∃ o, m_is_less [.t (mD a), .t (mD b)] = .ok (.bl (ltM a b)) o := by
  cases a <;> cases b <;> simp [m_is_less, ltM]
theorem v_is_earlier {a b : Mo} (ha : OkM a) (hb : OkM b) : ∃ o, m_is_earlier [.t (mD a), .t (mD b)] = .ok (.bl (ltM a b)) o := by
  obtain ⟨o, e⟩ := v_check_one_moment ha
  obtain ⟨o2, e2⟩ := v_check_one_moment hb
  obtain ⟨o3, e3⟩ := v_is_less (a := a) (b := b)
  simp [m_is_earlier, e, e2, e3]
theorem v_moment_sum {a : Mo} {k : Int} : ∃ o, m_moment_sum [.t (mD a), .t (.int k)] = .ok (mD (addM a k)) o := by
  cases a <;> simp [m_moment_sum, addM]
/-- the latest of moments, 0 at least -/
def latG (acc : Int) : List Mo → Mo
  | [] => some acc
  | none :: _ => none
  | some i :: r => latG (if acc < i then i else acc) r
theorem latL {L : D} {body : EnvD → RS} (hb : body = sSeq (sIf (tB (eOp2 isD (pV 2) (pE (eC .non)))) (sRet (eC .non)) sNx) (sSet 1 (eIf (tB (eOp2 ltD (pV 1) (pV 2))) (eVar 2) (eVar 1)))) : ∀ (ms : List Mo) (acc : Int) (s : SV), (s = .no ∨ ∃ d, s = .t d) →
    (∃ ρ, forL (gN 2) body (ms.map mD) [.t L, .t (.int acc), s] = .rt .non ρ ∧ latG acc ms = none ∧ ρ.take 1 = [.t L]) ∨ (∃ i s', forL (gN 2) body (ms.map mD) [.t L, .t (.int acc), s] = .nx [.t L, .t (.int i), s'] ∧ latG acc ms = some i)
  | [], acc, s, _ => .inr ⟨acc, s, rfl, rfl⟩
  | none :: r, acc, s, hs => by
    refine .inl ⟨[.t L, .t (.int acc), .t .non], ?_, rfl, rfl⟩
    rw [List.map_cons, forL_cons (ρ' := [.t L, .t (.int acc), .t .non]) (by rcases hs with rfl | ⟨d, rfl⟩ <;> simp)]
    subst hb
    simp
  | some i :: r, acc, s, hs => by
    rw [List.map_cons, forL_cons (ρ' := [.t L, .t (.int acc), .t (.int i)]) (by rcases hs with rfl | ⟨d, rfl⟩ <;> simp)]
    have hb' : body [.t L, .t (.int acc), .t (.int i)] = .nx [.t L, .t (.int (if acc < i then i else acc)), .t (.int i)] := by
      subst hb
      by_cases c : acc < i <;> simp [c]
    rw [hb', forK_nx]
    exact latL hb r _ _ (.inr ⟨_, rfl⟩)
theorem v_latest_of {ms : List Mo} : ∃ o, m_latest_of [.t (.lst (ms.map mD))] = .ok (mD (latG 0 ms)) o := by
  rcases latL (L := .lst (ms.map mD)) rfl ms 0 .no (.inl rfl) with ⟨ρ, h1, h2, h3⟩ | ⟨i, s', h1, h2⟩
  · rw [h2]
    simp [m_latest_of, h1, h3]
  · rw [h2]
    simp [m_latest_of, h1]
end K15

namespace K15
open PySem PySem.Spec PyProof.Rows L2 DL
/-- the first of moments -/
def firstG (acc : Mo) : List Mo → Mo
  | [] => acc
  | m :: r => firstG (if ltM m acc = true then m else acc) r
theorem firstL {L : D} {body : EnvD → RS} (hb : body = sSet 1 (eIf (tTr (pE (callD 2 m_is_less [] (oCons (pE (eVar 2)) (oCons (pE (eVar 1)) (oNil)))))) (eVar 2) (eVar 1))) : ∀ (ms : List Mo) (acc : Mo) (s : SV), (s = .no ∨ ∃ d, s = .t d) →
    ∃ s', forL (gN 2) body (ms.map mD) [.t L, .t (mD acc), s] = .nx [.t L, .t (mD (firstG acc ms)), s']
  | [], acc, s, _ => ⟨s, rfl⟩
  | m :: r, acc, s, hs => by
    rw [List.map_cons, forL_cons (ρ' := [.t L, .t (mD acc), .t (mD m)]) (by rcases hs with rfl | ⟨d, rfl⟩ <;> simp)]
    obtain ⟨o, e⟩ := v_is_less (a := m) (b := acc)
    have hb' : body [.t L, .t (mD acc), .t (mD m)] = .nx [.t L, .t (mD (if ltM m acc = true then m else acc)), .t (mD m)] := by
      subst hb
      cases c : ltM m acc <;> simp [e, c]
    rw [hb', forK_nx]
    exact firstL hb r _ _ (.inr ⟨_, rfl⟩)
theorem v_first_of {ms : List Mo} : ∃ o, m_first_of [.t (.lst (ms.map mD))] = .ok (mD (firstG none ms)) o := by
  obtain ⟨s', h⟩ := firstL (L := .lst (ms.map mD)) rfl ms none .no (.inl rfl)
  rw [mD_none] at h
  simp [m_first_of, h]
/-! ### the n-th -/
def nth (ms : List Mo) (n : Nat) : Mo := (isort (ms.filterMap id))[n - 1]?
theorem isort_len : ∀ l : List Int, (isort l).length = l.length := fun l => (isort_perm l).length_eq
theorem comp_some {L1 : D} {n : D} : ∀ {ms : List Mo} , compL (gN 3) (tB (eOp2 isntD (pV 3) (pE (eC .non)))) (eCall intD (oCons (pV 3) oNil)) [3] (ms.map mD) [.t L1, .t n, .no, .no] = .ok ((ms.filterMap id).map D.int) [.t L1, .t n, .no, .no]
  | [] => rfl
  | none :: r => by
    rw [List.map_cons, show (none :: r : List Mo).filterMap id = r.filterMap id from rfl]
    exact compL_not (ρ1 := [.t L1, .t n, .no, .t .non]) (ρ2 := [.t L1, .t n, .no, .t .non]) (by simp) (by simp) (by simpa using comp_some)
  | some i :: r => by
    rw [List.map_cons, show (some i :: r : List Mo).filterMap id = i :: r.filterMap id from rfl]
    exact compL_yes (ρ1 := [.t L1, .t n, .no, .t (.int i)]) (ρ2 := [.t L1, .t n, .no, .t (.int i)]) (ρ3 := [.t L1, .t n, .no, .t (.int i)]) (by simp) (by simp) (by simp) (by simpa using comp_some)
theorem atI_nat {α : Type} {l : List α} {j : Nat} (h : j < l.length) : atI l (j : Int) = l[j]? := by
  unfold atI ixN
  rw [if_pos (by omega), if_pos (by omega)]
  simp
theorem map_get {l : List Int} {j : Nat} : (l.map D.int)[j]? = l[j]?.map D.int := by simp
theorem v_so_many_th {ms : List Mo} {n : Nat} (h1 : 1 ≤ n) (hl : ms.length < 64) : ∃ o, m_so_many_th [.t (.lst (ms.map mD)), .t (.int n)] = .ok (mD (nth ms n)) o := by
  have hc := comp_some (L1 := .lst (ms.map mD)) (n := .int n) (ms := ms)
  have hf : (ms.filterMap id).length < 64 := Nat.lt_of_le_of_lt (List.length_filterMap_le _ _) hl
  have hs : sortedD [.lst ((ms.filterMap id).map D.int)] = some (.lst ((isort (ms.filterMap id)).map D.int)) := by
    simp only [sortedD, intsOf_map, Option.bind_some]
    rw [if_pos hf]
  by_cases c : n ≤ (ms.filterMap id).length
  · have hlt : n - 1 < (isort (ms.filterMap id)).length := by rw [isort_len]; omega
    have hi : atI ((isort (ms.filterMap id)).map D.int) ((n : Int) - 1) = some (mD (nth ms n)) := by
      have e : ((n : Int) - 1) = ((n - 1 : Nat) : Int) := by omega
      rw [e, atI_nat (by rw [List.length_map]; exact hlt), map_get]
      unfold nth
      rw [List.getElem?_eq_getElem hlt]
      rfl
    have c' : (n : Int) ≤ ((ms.filterMap id).length : Nat) := by omega
    simp [m_so_many_th, hc, hs, hi, isort_len, c', Nat.le_trans (Nat.le_of_lt hl) (by decide : 64 ≤ 100000)]
  · have hn : nth ms n = none := by
      unfold nth
      rw [List.getElem?_eq_none]
      rw [isort_len]
      omega
    have c' : ¬ (n : Int) ≤ ((ms.filterMap id).length : Nat) := by omega
    simp [m_so_many_th, hc, hs, hn, isort_len, c', Nat.le_trans (Nat.le_of_lt hl) (by decide : 64 ≤ 100000)]
/-! ### desks, gates -/
def freeG (ends : List Mo) (d : Nat) : Mo := if ends.length < d then some 0 else nth ends (ends.length - d + 1)
theorem v_free_desk {ends : List Mo} {d : Nat} (hl : ends.length < 64) : ∃ o, m_free_desk [.t (.lst (ends.map mD)), .t (.int d)] = .ok (mD (freeG ends d)) o := by
  by_cases c : ends.length < d
  · have c' : (ends.length : Int) < d := by omega
    simp [m_free_desk, freeG, c, c']
  · obtain ⟨o, e⟩ := v_so_many_th (ms := ends) (n := ends.length - d + 1) (by omega) hl
    have e2 : (((ends.length - d + 1 : Nat) : Int)) = (ends.length : Int) - d + 1 := by omega
    rw [e2] at e
    have c' : ¬ (ends.length : Int) < d := by omega
    simp [m_free_desk, freeG, c, c', e]
abbrev Sp2 := Int × Int
def spD2 (s : Sp2) : D := .tup [.int s.1, .int s.2]
abbrev Hrs := Option (List Sp2)
def ownD' : Hrs → D
  | none => .non
  | some l => .tup (l.map spD2)
def hoursD (h : Hrs) : D := .ins "Hours" [("own_spans", ownD' h)]
def gateL (n t : Int) : List Sp2 → Mo
  | [] => none
  | s :: r => if (if t < s.1 then s.1 else t) + n ≤ s.2 then some (if t < s.1 then s.1 else t) else gateL n t r
def gateG (h : Hrs) (n : Int) (t : Mo) : Mo := match t, h with
  | none, _ => none
  | some t, none => some t
  | some t, some l => gateL n t l
theorem fld_hours {h : Hrs} : fldD ["Hours"] "own_spans" (hoursD h) = some (ownD' h) := rfl
theorem recv_hours {h : Hrs} : recvOk "Hours" "gate_at" (some (hoursD h)) = true := rfl
theorem gate_loop {x0 : D} {t : Int} {n : Int} {body : EnvD → RS} (hb : body = sSeq (sSet 5 (eIf (tB (eOp2 ltD (pV 2) (pV 3))) (eVar 3) (eVar 2))) (sIf (tB (eOp2 leD (pE (eOp2 plusD (pV 5) (pV 1))) (pV 4))) (sRetV 5) (sNx))) : ∀ (l : List Sp2) (a b c : SV), (a = .no ∨ ∃ d, a = .t d) → (b = .no ∨ ∃ d, b = .t d) → (c = .no ∨ ∃ d, c = .t d) →
    (∃ r ρ, forL (gT 2 (gsCons (gN 3) (gsCons (gN 4) gsNil))) body (l.map spD2) [.t x0, .t (.int n), .t (.int t), a, b, c] = .rt (.int r) ρ ∧ gateL n t l = some r ∧ ρ.take 3 = [.t x0, .t (.int n), .t (.int t)]) ∨
      (∃ a' b' c', forL (gT 2 (gsCons (gN 3) (gsCons (gN 4) gsNil))) body (l.map spD2) [.t x0, .t (.int n), .t (.int t), a, b, c] = .nx [.t x0, .t (.int n), .t (.int t), a', b', c'] ∧ gateL n t l = none)
  | [], a, b, c, _, _, _ => .inr ⟨a, b, c, rfl, rfl⟩
  | s :: r, a, b, c, ha, hb2, hc => by
    rw [List.map_cons, forL_cons (ρ' := [.t x0, .t (.int n), .t (.int t), .t (.int s.1), .t (.int s.2), c]) (by rcases ha with rfl | ⟨d, rfl⟩ <;> rcases hb2 with rfl | ⟨d', rfl⟩ <;> simp [spD2])]
    have hset : ∃ bg, bg = (if t < s.1 then s.1 else t) := ⟨_, rfl⟩
    obtain ⟨bg, hbg⟩ := hset
    by_cases k : bg + n ≤ s.2
    · have hb' : body [.t x0, .t (.int n), .t (.int t), .t (.int s.1), .t (.int s.2), c] = .rt (.int bg) [.t x0, .t (.int n), .t (.int t), .t (.int s.1), .t (.int s.2), .t (.int bg)] := by
        subst hb
        by_cases q : t < s.1
        · rw [if_pos q] at hbg
          subst hbg
          rcases hc with rfl | ⟨d, rfl⟩ <;> simp [q, k]
        · rw [if_neg q] at hbg
          subst hbg
          rcases hc with rfl | ⟨d, rfl⟩ <;> simp [q, k]
      rw [hb', forK_rt]
      refine .inl ⟨bg, _, rfl, ?_, rfl⟩
      unfold gateL
      rw [← hbg, if_pos k]
    · have hb' : body [.t x0, .t (.int n), .t (.int t), .t (.int s.1), .t (.int s.2), c] = .nx [.t x0, .t (.int n), .t (.int t), .t (.int s.1), .t (.int s.2), .t (.int bg)] := by
        subst hb
        by_cases q : t < s.1
        · rw [if_pos q] at hbg
          subst hbg
          rcases hc with rfl | ⟨d, rfl⟩ <;> simp [q, k]
        · rw [if_neg q] at hbg
          subst hbg
          rcases hc with rfl | ⟨d, rfl⟩ <;> simp [q, k]
      rw [hb', forK_nx]
      have e : gateL n t (s :: r) = gateL n t r := by
        rw [gateL, ← hbg, if_neg k]
      rw [e]
      exact gate_loop hb r _ _ _ (.inr ⟨_, rfl⟩) (.inr ⟨_, rfl⟩) (.inr ⟨_, rfl⟩)
theorem v_gate_at {h : Hrs} {n : Int} {t : Mo} : ∃ o, m_Hours_gate_at [.t (hoursD h), .t (.int n), .t (mD t)] = .ok (mD (gateG h n t)) o := by
  cases t with
  | none => cases h <;> simp [m_Hours_gate_at, gateG]
  | some t =>
    cases h with
    | none => simp [m_Hours_gate_at, gateG, fld_hours, ownD']
    | some l =>
      rcases gate_loop (x0 := hoursD (some l)) (t := t) (n := n) rfl l .no .no .no (.inl rfl) (.inl rfl) (.inl rfl) with ⟨r, ρ, h1, h2, h3⟩ | ⟨a', b', c', h1, h2⟩
      · simp [m_Hours_gate_at, gateG, fld_hours, ownD', h1, h2, h3]
      · simp [m_Hours_gate_at, gateG, fld_hours, ownD', h1, h2]
def beginG (a b : Mo) (ends : List Mo) (d : Nat) (h : Hrs) (n : Int) : Mo := gateG h n (latG 0 [a, b, freeG ends d])
theorem v_desk_begin {a b : Mo} {ends : List Mo} {d : Nat} {h : Hrs} {n : Int} (hl : ends.length < 64) : ∃ o, m_desk_begin [.t (mD a), .t (mD b), .t (.lst (ends.map mD)), .t (.int d), .t (hoursD h), .t (.int n)] = .ok (mD (beginG a b ends d h n)) o := by
  obtain ⟨o1, e1⟩ := v_free_desk (ends := ends) (d := d) hl
  obtain ⟨o2, e2⟩ := v_latest_of (ms := [a, b, freeG ends d])
  obtain ⟨o3, e3⟩ := v_gate_at (h := h) (n := n) (t := latG 0 [a, b, freeG ends d])
  have e2' : m_latest_of [.t (.lst [mD a, mD b, mD (freeG ends d)])] = .ok (mD (latG 0 [a, b, freeG ends d])) o2 := e2
  simp [m_desk_begin, e1, e2', e3, recv_hours, beginG]
end K15

namespace K15
open PySem PySem.Spec PyProof.Rows L2 DL
/-! ### the row of a counter -/
abbrev Row := List (Mo × Mo)
def pD (p : Mo × Mo) : D := .tup [mD p.1, mD p.2]
def rowG (h : Hrs) (d : Nat) : Mo → List Mo → List (Mo × Int) → Row
  | _, _, [] => []
  | b, ends, x :: r => (beginG x.1 b ends d h x.2, addM (beginG x.1 b ends d h x.2) x.2) :: rowG h d (beginG x.1 b ends d h x.2) (ends ++ [addM (beginG x.1 b ends d h x.2) x.2]) r
def aD (x : Mo × Int) : D := .tup [mD x.1, .int x.2]
theorem zip_aD : ∀ (as : List Mo) (ls : List Int), zipD (as.map mD) (ls.map D.int) = (as.zip ls).map aD
  | [], _ => rfl
  | _ :: _, [] => rfl
  | a :: as, l :: ls => by
    show D.tup [mD a, .int l] :: zipD (as.map mD) (ls.map D.int) = aD (a, l) :: (as.zip ls).map aD
    rw [zip_aD]
    rfl
theorem atI_last {α : Type} {l : List α} {x : α} : atI (l ++ [x]) (-1) = some x := by
  unfold atI ixN
  rw [if_neg (by omega), if_pos (by simp; omega)]
  have e : (-1 + ((l ++ [x]).length : Int)).toNat = l.length := by simp; omega
  show (l ++ [x])[(-1 + ((l ++ [x]).length : Int)).toNat]? = some x
  rw [e]
  simp
theorem row_loop {A L d0 hh : D} {d : Nat} {h : Hrs} {body : EnvD → RS} (hd : d0 = .int d) (hhh : hh = hoursD h) (hb : body = sSeq (sSet 5 (callB 6 m_desk_begin [] (oCons (pE (eVar 7)) (oCons (pE (eVar 5)) (oCons (pV 6) (oCons (pE (eVar 2)) (oCons (pE (eVar 3)) (oCons (pE (eVar 8)) (oNil)))))))))
  (sSeq (sDrop (cellM 6 gApp (aCons (callD 2 m_moment_sum [] (oCons (pE (eVar 5)) (oCons (pE (eVar 8)) (oNil)))) (aNil))))
  (sDrop (cellM 4 gApp (aCons (fz (nTup (aCons (eVar 5) (aCons (eOp2 ixD (pV 6) (pE (eOp1 negD (pE (eC (.int 1)))))) (aNil))))) (aNil)))))) : ∀ (l : List (Mo × Int)) (b : Mo) (ends : List Mo) (found : Row) (x y : SV), (x = .no ∨ ∃ d, x = .t d) → (y = .no ∨ ∃ d, y = .t d) → ends.length + l.length < 64 → found.length + l.length < 64 →
    ∃ b' e' x' y', forL (gT 2 (gsCons (gN 7) (gsCons (gN 8) gsNil))) body (l.map aD) [.t A, .t L, .t d0, .t hh, .c (.lst (found.map pD)), .t (mD b), .c (.lst (ends.map mD)), x, y] =
      .nx [.t A, .t L, .t d0, .t hh, .c (.lst ((found ++ rowG h d b ends l).map pD)), .t b', e', x', y']
  | [], b, ends, found, x, y, _, _, _, _ => ⟨mD b, .c (.lst (ends.map mD)), x, y, by simp [rowG]⟩
  | z :: r, b, ends, found, x, y, hx, hy, h1, h2 => by
    rw [List.length_cons] at h1 h2
    rw [List.map_cons, forL_cons (ρ' := [.t A, .t L, .t d0, .t hh, .c (.lst (found.map pD)), .t (mD b), .c (.lst (ends.map mD)), .t (mD z.1), .t (.int z.2)]) (by rcases hx with rfl | ⟨q, rfl⟩ <;> rcases hy with rfl | ⟨q', rfl⟩ <;> simp [aD])]
    obtain ⟨o, e⟩ := v_desk_begin (a := z.1) (b := b) (ends := ends) (d := d) (h := h) (n := z.2) (by omega)
    obtain ⟨o2, e2⟩ := v_moment_sum (a := beginG z.1 b ends d h z.2) (k := z.2)
    have hsc : scalD (mD (beginG z.1 b ends d h z.2)) = true := by cases beginG z.1 b ends d h z.2 <;> rfl
    have l1 : ends.length < 10000 := by omega
    have l2 : found.length < 10000 := by omega
    have hlast : atI (ends.map mD ++ [mD (addM (beginG z.1 b ends d h z.2) z.2)]) (-1) = some (mD (addM (beginG z.1 b ends d h z.2) z.2)) := atI_last
    have hb' : body [.t A, .t L, .t d0, .t hh, .c (.lst (found.map pD)), .t (mD b), .c (.lst (ends.map mD)), .t (mD z.1), .t (.int z.2)] =
        .nx [.t A, .t L, .t d0, .t hh, .c (.lst ((found ++ [(beginG z.1 b ends d h z.2, addM (beginG z.1 b ends d h z.2) z.2)]).map pD)), .t (mD (beginG z.1 b ends d h z.2)), .c (.lst ((ends ++ [addM (beginG z.1 b ends d h z.2) z.2]).map mD)), .t (mD z.1), .t (.int z.2)] := by
      subst hb hd hhh
      simp [e, e2, hsc, l1, l2, hlast, pD]
    rw [hb', forK_nx]
    obtain ⟨b', e', x', y', q⟩ := row_loop hd hhh hb r (beginG z.1 b ends d h z.2) (ends ++ [addM (beginG z.1 b ends d h z.2) z.2]) (found ++ [(beginG z.1 b ends d h z.2, addM (beginG z.1 b ends d h z.2) z.2)]) _ _ (.inr ⟨_, rfl⟩) (.inr ⟨_, rfl⟩) (by simp; omega) (by simp; omega)
    exact ⟨b', e', x', y', by rw [q, rowG, List.append_assoc]; rfl⟩
def counterG (as : List Mo) (ls : List Int) (d : Nat) (h : Hrs) : Row := rowG h d (some 0) [] (as.zip ls)
theorem v_counter_row {as : List Mo} {ls : List Int} {d : Nat} {h : Hrs} (ha : ∀ m ∈ as, OkM m) (hls : ∀ i ∈ ls, 0 ≤ i) (hl : ls.length = as.length) (hs : as.length < 64) (h1 : 1 ≤ d) (h2 : d ≤ 3) :
    ∃ o, m_counter_row [.t (.lst (as.map mD)), .t (.lst (ls.map D.int)), .t (.int d), .t (hoursD h)] = .okN (.lst ((counterG as ls d h).map pD)) o := by
  obtain ⟨o1, e1⟩ := v_check_moments (w := "arrivals") ha (by omega)
  obtain ⟨o2, e2⟩ := v_check_counts (w := "lengths") hls (by omega)
  rw [hl] at e2
  obtain ⟨o3, e3⟩ := v_check_desks (i := d) (by omega) (by omega)
  obtain ⟨o4, e4⟩ := v_check_hours (fs := [("own_spans", ownD' h)])
  have e4' : m_check_hours [.t (hoursD h)] = .ok .non o4 := e4
  obtain ⟨b', e', x', y', q⟩ := row_loop (A := .lst (as.map mD)) (L := .lst (ls.map D.int)) (d := d) (h := h) rfl rfl rfl (as.zip ls) (some 0) [] [] .no .no (.inl rfl) (.inl rfl) (by simp; omega) (by simp; omega)
  simp only [List.map_nil, List.nil_append, mD_some] at q
  simp [m_counter_row, e1, e2, e3, e4', zip_aD, q, counterG]
end K15

namespace K15
open PySem PySem.Spec PyProof.Rows L2 DL
/-! ### the source of drawn numbers -/
abbrev Src := Int × Int
def srcC (s : Src) : CO := .lst [.int s.1, .int s.2]
def GoodS (s : Src) : Prop := 0 ≤ s.2 ∧ s.2 < 2147483647
theorem atI0 {α : Type} {x : α} {l : List α} : atI (x :: l) 0 = some x := by
  unfold atI ixN
  rw [if_pos (by omega), if_pos (by rw [List.length_cons]; omega)]
  rfl
theorem atI1 {α : Type} {x y : α} {l : List α} : atI (x :: y :: l) 1 = some y := by
  unfold atI ixN
  rw [if_pos (by omega), if_pos (by simp; omega)]
  rfl
theorem ixN0 : ixN 2 0 = some 0 := rfl
theorem ixN1 : ixN 2 1 = some 1 := rfl
theorem v_take {s : Src} {top : Int} (hs : GoodS s) (h0 : 0 < top) (h1 : top < 1000000) : ∃ r s', m__law_take [.p (srcC s), .t (.int top)] = .ok (.int r) [.p (srcC s'), .t (.int top)] ∧ 0 ≤ r ∧ r < top ∧ GoodS s' := by
  obtain ⟨a, b⟩ := s
  obtain ⟨g1, g2⟩ := hs
  simp only at g1 g2
  by_cases c : 0 < a
  · refine ⟨a % top, (a / top, b), ?_, Int.emod_nonneg _ (by omega), Int.emod_lt_of_pos _ h0, ⟨g1, g2⟩⟩
    have h2 : top < 1073741824 := by omega
    simp [m__law_take, srcC, atI0, c, h0, h2, ixN0]
  · obtain ⟨b', hb'⟩ : ∃ b', b' = (b * 39373 + 7) % 2147483647 := ⟨_, rfl⟩
    have k1 : 0 ≤ b' := by rw [hb']; exact Int.emod_nonneg _ (by decide)
    have k2 : b' < 2147483647 := by rw [hb']; exact Int.emod_lt_of_pos _ (by decide)
    refine ⟨(b' * b' % 2147483629 / 32) % top, (a, b'), ?_, Int.emod_nonneg _ (by omega), Int.emod_lt_of_pos _ h0, ⟨k1, k2⟩⟩
    have q1 : small64I 39373 = true := by decide
    have q2 : small64I b' = true := by
      obtain ⟨j, rfl⟩ : ∃ j : Nat, b' = (j : Int) := ⟨b'.toNat, by omega⟩
      exact Nat.ble_eq_true_of_le (show j ≤ 18446744073709551615 by omega)
    simp [m__law_take, srcC, atI0, atI1, c, h0, ixN1, q1, ← hb', q2]
theorem v_one {s : Src} {l : List D} (hs : GoodS s) (h0 : 0 < l.length) (h1 : l.length < 1000000) : ∃ x s', m__law_one [.p (srcC s), .t (.lst l)] = .ok x [.p (srcC s'), .t (.lst l)] ∧ x ∈ l ∧ GoodS s' := by
  obtain ⟨r, s', e, h2, h3, h4⟩ := v_take (top := l.length) hs (by omega) (by omega)
  have hr : r = ((r.toNat : Nat) : Int) := by omega
  have hlt : r.toNat < l.length := by omega
  have hx : atI l r = some l[r.toNat] := by
    have := atI_nat hlt
    rw [← hr] at this
    rw [this]
    simp
  refine ⟨l[r.toNat], s', ?_, List.getElem_mem hlt, h4⟩
  simp [m__law_one, e, hx]
theorem v_moment {s : Src} {most : Int} (hs : GoodS s) (h0 : 0 < most) (h1 : most < 1000000) : ∃ m s', m__law_moment [.p (srcC s), .t (.int most)] = .ok (mD m) [.p (srcC s'), .t (.int most)] ∧ OkM m ∧ GoodS s' := by
  obtain ⟨r, s1, e1, h2, h3, h4⟩ := v_take (top := 9) hs (by decide) (by decide)
  by_cases c : r = 0
  · refine ⟨none, s1, ?_, (fun i h => by cases h), h4⟩
    subst c
    simp [m__law_moment, e1]
  · obtain ⟨r2, s2, e2, k2, k3, k4⟩ := v_take (top := most) h4 h0 h1
    refine ⟨some r2, s2, ?_, (fun i h => by cases h; exact k2), k4⟩
    simp [m__law_moment, e1, c, e2]
/-! ### spans -/
def Chn (lo : Int) : List Sp2 → Prop
  | [] => True
  | s :: r => lo ≤ s.1 ∧ s.1 ≤ s.2 ∧ Chn (s.2 + 1) r
def GoodSp (l : List Sp2) : Prop := l.length ≤ 4 ∧ Chn 0 l ∧ ∀ s ∈ l, s.2 ≤ 9999
theorem mem6 {x : D} (h : x ∈ [D.int 0, .int 1, .int 2, .int 4, .int 6, .int 9]) : ∃ i : Int, x = .int i ∧ 0 ≤ i ∧ i ≤ 9 := by
  simp at h
  rcases h with rfl | rfl | rfl | rfl | rfl | rfl <;> exact ⟨_, rfl, by decide, by decide⟩
theorem spans_loop {body : EnvD → RS} (hb : body = sSeq (sSet 4 (eOp2 plusD (pV 1) (pE (callD 2 m__law_take [] (oCons (pV 0) (oCons (pE (eC (.int 4))) (oNil)))))))
  (sSeq (sSet 5 (eOp2 plusD (pV 4) (pE (callD 2 m__law_one [] (oCons (pV 0) (oCons (pE (fz (nLst (aCons (eC (.int 0)) (aCons (eC (.int 1)) (aCons (eC (.int 2)) (aCons (eC (.int 4)) (aCons (eC (.int 6)) (aCons (eC (.int 9)) (aNil)))))))))) (oNil)))))))
  (sSeq (sDrop (cellM 2 gApp (aCons (fz (nTup (aCons (eVar 4) (aCons (eVar 5) (aNil))))) (aNil))))
  (sSet 1 (eOp2 plusD (pE (eOp2 plusD (pV 5) (pE (eC (.int 1))))) (pE (callD 2 m__law_take [] (oCons (pV 0) (oCons (pE (eC (.int 3))) (oNil)))))))))) : ∀ (ds : List D) (s : Src) (at_ : Int) (found : List Sp2) (x y z : SV), GoodS s → 0 ≤ at_ → at_ + 15 * ds.length ≤ 9000 → found.length + ds.length ≤ 100 → (x = .no ∨ ∃ d, x = .t d) → (y = .no ∨ ∃ d, y = .t d) → (z = .no ∨ ∃ d, z = .t d) →
    ∃ s' at' new x' y' z', forL (gN 3) body ds [.p (srcC s), .t (.int at_), .c (.lst (found.map spD2)), x, y, z] = .nx [.p (srcC s'), .t at', .c (.lst ((found ++ new).map spD2)), x', y', z'] ∧ GoodS s' ∧ Chn at_ new ∧ new.length = ds.length ∧ ∀ p ∈ new, p.2 ≤ 9999
  | [], s, at_, found, x, y, z, hs, _, _, _, _, _, _ => ⟨s, .int at_, [], x, y, z, by simp, hs, trivial, rfl, by simp⟩
  | d :: ds, s, at_, found, x, y, z, hs, h0, h1, h2, hx, hy, hz => by
    rw [List.length_cons] at h1 h2
    obtain ⟨r1, s1, e1, a1, b1, g1⟩ := v_take (top := 4) hs (by decide) (by decide)
    obtain ⟨v, s2, e2, m2, g2⟩ := v_one (l := [D.int 0, .int 1, .int 2, .int 4, .int 6, .int 9]) g1 (by simp) (by simp)
    obtain ⟨w, rfl, a2, b2⟩ := mem6 m2
    obtain ⟨r3, s3, e3, a3, b3, g3⟩ := v_take (top := 3) g2 (by decide) (by decide)
    have l2 : found.length < 10000 := by omega
    have hb' : body [.p (srcC s), .t (.int at_), .c (.lst (found.map spD2)), .t d, y, z] = .nx [.p (srcC s3), .t (.int (at_ + r1 + w + 1 + r3)), .c (.lst ((found ++ [(at_ + r1, at_ + r1 + w)]).map spD2)), .t d, .t (.int (at_ + r1)), .t (.int (at_ + r1 + w))] := by
      subst hb
      rcases hy with rfl | ⟨d1, rfl⟩ <;> rcases hz with rfl | ⟨d2, rfl⟩ <;> simp [e1, e2, e3, l2, spD2]
    rw [forL_cons (ρ' := [.p (srcC s), .t (.int at_), .c (.lst (found.map spD2)), .t d, y, z]) (by rcases hx with rfl | ⟨q, rfl⟩ <;> simp), hb', forK_nx]
    obtain ⟨s', at', new, x', y', z', q, gs, ch, ln, mx⟩ := spans_loop hb ds s3 (at_ + r1 + w + 1 + r3) (found ++ [(at_ + r1, at_ + r1 + w)]) (.t d) (.t (.int (at_ + r1))) (.t (.int (at_ + r1 + w))) g3 (by omega) (by omega) (by simp; omega) (.inr ⟨_, rfl⟩) (.inr ⟨_, rfl⟩) (.inr ⟨_, rfl⟩)
    refine ⟨s', at', (at_ + r1, at_ + r1 + w) :: new, x', y', z', by rw [q, List.append_assoc]; rfl, gs, ⟨by show at_ ≤ at_ + r1; omega, by show at_ + r1 ≤ at_ + r1 + w; omega, ?_⟩, by simp [ln], ?_⟩
    · have mono : ∀ {l : List Sp2} {a b : Int}, a ≤ b → Chn b l → Chn a l := fun {l} => by
        cases l with
        | nil => exact fun _ _ => trivial
        | cons p r => exact fun hab ⟨c1, c2, c3⟩ => ⟨by omega, c2, c3⟩
      exact mono (by show at_ + r1 + w + 1 ≤ at_ + r1 + w + 1 + r3; omega) ch
    · intro p hp
      rcases List.mem_cons.mp hp with rfl | hp
      · show at_ + r1 + w ≤ 9999
        omega
      · exact mx p hp
def spansArg : Hrs → D
  | none => .non
  | some l => .lst (l.map spD2)
def GoodH : Hrs → Prop
  | none => True
  | some l => GoodSp l
theorem mem7 {x : D} (h : x ∈ [D.int 0, .int 1, .int 1, .int 2, .int 2, .int 3, .int 4]) : ∃ i : Nat, x = .int i ∧ i ≤ 4 := by
  simp at h
  rcases h with rfl | rfl | rfl | rfl | rfl
  · exact ⟨0, rfl, by decide⟩
  · exact ⟨1, rfl, by decide⟩
  · exact ⟨2, rfl, by decide⟩
  · exact ⟨3, rfl, by decide⟩
  · exact ⟨4, rfl, by decide⟩
end K15

namespace K15
open PySem PySem.Spec PyProof.Rows L2 DL
theorem sm_of {n : Nat} (hn : n ≤ 1000) : smallR (n : Int) = true := Nat.ble_eq_true_of_le (Nat.le_trans hn (by decide))
theorem v_spans {s : Src} (hs : GoodS s) : ∃ h s', (m__law_spans [.p (srcC s)] = .ok .non [.p (srcC s')] ∧ h = none ∨ ∃ l, m__law_spans [.p (srcC s)] = .okN (.lst (l.map spD2)) [.p (srcC s')] ∧ h = some l) ∧ GoodH h ∧ GoodS s' := by
  obtain ⟨r1, s1, e1, a1, b1, g1⟩ := v_take (top := 6) hs (by decide) (by decide)
  by_cases c : r1 = 0
  · subst c
    exact ⟨none, s1, .inl ⟨by simp [m__law_spans, e1], rfl⟩, trivial, g1⟩
  · obtain ⟨v, s2, e2, m2, g2⟩ := v_one (l := [D.int 0, .int 1, .int 1, .int 2, .int 2, .int 3, .int 4]) g1 (by simp) (by simp)
    obtain ⟨n, rfl, hn⟩ := mem7 m2
    obtain ⟨ds, hds⟩ : ∃ ds, ds = rngD 0 (n : Int) := ⟨_, rfl⟩
    have hlen : ds.length = n := by subst hds; unfold rngD; simp
    obtain ⟨s', at', new, x', y', z', q, gs, ch, ln, mx⟩ := spans_loop rfl ds s2 0 [] .no .no .no g2 (by decide) (by rw [hlen]; omega) (by rw [hlen]; simp; omega) (.inl rfl) (.inl rfl) (.inl rfl)
    rw [hlen] at ln
    have sm : smallR (n : Int) = true := sm_of (by omega)
    simp only [List.map_nil, List.nil_append] at q
    refine ⟨some new, s', .inr ⟨new, ?_, rfl⟩, ⟨by omega, ch, mx⟩, gs⟩
    have hi : iRange1 (pE (callD 2 m__law_one [] (oCons (pV 0) (oCons (pE (fz (nLst (aCons (eC (.int 0)) (aCons (eC (.int 1)) (aCons (eC (.int 1)) (aCons (eC (.int 2)) (aCons (eC (.int 2)) (aCons (eC (.int 3)) (aCons (eC (.int 4)) (aNil))))))))))) (oNil))))) [.p (srcC s1), .t (.int 0), .c (.lst []), .no, .no, .no] = .ok ds [.p (srcC s2), .t (.int 0), .c (.lst []), .no, .no, .no] := by
      have h7 : (pE (callD 2 m__law_one [] (oCons (pV 0) (oCons (pE (fz (nLst (aCons (eC (.int 0)) (aCons (eC (.int 1)) (aCons (eC (.int 1)) (aCons (eC (.int 2)) (aCons (eC (.int 2)) (aCons (eC (.int 3)) (aCons (eC (.int 4)) (aNil))))))))))) (oNil))))) [.p (srcC s1), .t (.int 0), .c (.lst []), .no, .no, .no] = .ok (.d (.int n)) [.p (srcC s2), .t (.int 0), .c (.lst []), .no, .no, .no] := by simp [e2]
      rw [iRange1_ev, h7, Rs.bind_ok, kRng_ev, pget_d, rngO_int sm, hds]
    simp [-iRange1_ev, m__law_spans, e1, c, hi, q]
end K15

namespace K15
open PySem PySem.Spec PyProof.Rows L2 DL
/-! ### slices, one item raised -/
theorem cut_to {l : List D} {k : Nat} (h : k ≤ l.length) : DL.cutD l none (some (k : Int)) = l.take k := by
  unfold DL.cutD
  rw [HT.sIx_nat]
  show (l.drop 0).take (min k l.length - 0) = l.take k
  rw [List.drop_zero, Nat.sub_zero, Nat.min_eq_left h]
theorem cut_from {l : List D} {k : Nat} (h : k ≤ l.length) : DL.cutD l (some (k : Int)) none = l.drop k := by
  unfold DL.cutD
  rw [HT.sIx_nat]
  show (l.drop (min k l.length)).take (l.length - min k l.length) = l.drop k
  rw [Nat.min_eq_left h]
  apply List.take_of_length_le
  rw [List.length_drop]
  exact Nat.le_refl _
theorem set_cut {α : Type} {l : List α} {k : Nat} {x : α} (h : k < l.length) : (l.take k ++ [x]) ++ l.drop (k + 1) = l.set k x := by
  rw [List.set_eq_take_append_cons_drop, if_pos h, List.append_assoc]
  rfl
theorem v_raised {s : Src} {l : List Mo} {k : Nat} (hs : GoodS s) (h : k < l.length) (hl : l.length < 1000) : ∃ r s', m__law_raised [.p (srcC s), .t (.lst (l.map mD)), .t (.int k)] = .okN (.lst ((l.set k (addM l[k] (1 + r))).map mD)) [.p (srcC s'), .t (.lst (l.map mD)), .t (.int k)] ∧ 0 ≤ r ∧ GoodS s' := by
  have hx : atI (l.map mD) (k : Int) = some (mD l[k]) := by
    rw [atI_nat (by rw [List.length_map]; exact h)]
    simp [h]
  have c1 : DL.cutD (l.map mD) none (some (k : Int)) = (l.map mD).take k := cut_to (by rw [List.length_map]; omega)
  have c2 : DL.cutD (l.map mD) (some ((k : Int) + 1)) none = (l.map mD).drop (k + 1) := by
    have := cut_from (l := l.map mD) (k := k + 1) (by rw [List.length_map]; omega)
    simpa using this
  have z1 : min k l.length + 1 ≤ sizeLine := by rw [sizeLine_eq]; omega
  have z2 : min k l.length + 1 + (l.length - (k + 1)) ≤ sizeLine := by rw [sizeLine_eq]; omega
  cases hm : l[k] with
  | none =>
    rw [hm] at hx
    refine ⟨0, s, ?_, Int.le_refl _, hs⟩
    have e : (l.map mD).take k ++ (D.non :: (l.map mD).drop (k + 1)) = (l.set k none).map mD := by
      rw [← set_cut h]
      simp
    simp [m__law_raised, hx, c1, c2, z1, z2, addM, e]
  | some v =>
    rw [hm] at hx
    obtain ⟨r, s1, e1, a1, b1, g1⟩ := v_take (top := 9) hs (by decide) (by decide)
    refine ⟨r, s1, ?_, a1, g1⟩
    have e : (l.map mD).take k ++ (D.int (v + 1 + r) :: (l.map mD).drop (k + 1)) = (l.set k (some (v + (1 + r)))).map mD := by
      rw [← set_cut h, show v + (1 + r) = v + 1 + r by omega]
      simp
    simp [m__law_raised, hx, c1, c2, z1, z2, addM, e, e1]
/-! ### no row earlier -/
def OkR (r : Row) : Prop := ∀ p ∈ r, OkM p.1 ∧ OkM p.2
def leM (a b : Mo) : Prop := ltM b a = false
def LeR : Row → Row → Prop
  | [], [] => True
  | p :: r, q :: t => leM p.1 q.1 ∧ leM p.2 q.2 ∧ LeR r t
  | _, _ => False
theorem LeR.len : ∀ {r t : Row}, LeR r t → r.length = t.length
  | [], [], _ => rfl
  | _ :: _, _ :: _, ⟨_, _, h⟩ => by rw [List.length_cons, List.length_cons, h.len]
  | [], _ :: _, h => h.elim
  | _ :: _, [], h => h.elim
theorem none_loop {A L : D} {body : EnvD → RS} (hb : body = sIf (wOr (tTr (pE (callD 2 m_is_earlier [] (oCons (pE (eOp2 ixD (pV 3) (pE (eC (.int 0))))) (oCons (pE (eOp2 ixD (pV 2) (pE (eC (.int 0))))) (oNil)))))) (tTr (pE (callD 2 m_is_earlier [] (oCons (pE (eOp2 ixD (pV 3) (pE (eC (.int 1))))) (oCons (pE (eOp2 ixD (pV 2) (pE (eC (.int 1))))) (oNil)))))))
   (sRet (eC (.bl false)))
   (sNx)) : ∀ (r t : Row) (x y : SV), LeR r t → OkR r → OkR t → (x = .no ∨ ∃ d, x = .t d) → (y = .no ∨ ∃ d, y = .t d) →
    ∃ x' y', forL (gT 2 (gsCons (gN 2) (gsCons (gN 3) gsNil))) body (zipD (r.map pD) (t.map pD)) [.t A, .t L, x, y] = .nx [.t A, .t L, x', y']
  | [], [], x, y, _, _, _, _, _ => ⟨x, y, rfl⟩
  | p :: r, q :: t, x, y, ⟨h1, h2, h3⟩, o1, o2, hx, hy => by
    show ∃ x' y', forL _ body (.tup [pD p, pD q] :: zipD (r.map pD) (t.map pD)) _ = _
    rw [forL_cons (ρ' := [.t A, .t L, .t (pD p), .t (pD q)]) (by rcases hx with rfl | ⟨d, rfl⟩ <;> rcases hy with rfl | ⟨d', rfl⟩ <;> simp)]
    obtain ⟨u1, e1⟩ := v_is_earlier (a := q.1) (b := p.1) (o2 q List.mem_cons_self).1 (o1 p List.mem_cons_self).1
    obtain ⟨u2, e2⟩ := v_is_earlier (a := q.2) (b := p.2) (o2 q List.mem_cons_self).2 (o1 p List.mem_cons_self).2
    rw [show ltM q.1 p.1 = false from h1] at e1
    rw [show ltM q.2 p.2 = false from h2] at e2
    have hb' : body [.t A, .t L, .t (pD p), .t (pD q)] = .nx [.t A, .t L, .t (pD p), .t (pD q)] := by
      subst hb
      simp [pD, atI0, atI1, e1, e2]
    rw [hb', forK_nx]
    exact none_loop hb r t _ _ h3 (fun z hz => o1 z (List.mem_cons_of_mem _ hz)) (fun z hz => o2 z (List.mem_cons_of_mem _ hz)) (.inr ⟨_, rfl⟩) (.inr ⟨_, rfl⟩)
  | [], _ :: _, _, _, h, _, _, _, _ => h.elim
  | _ :: _, [], _, _, h, _, _, _, _ => h.elim
theorem v_none_earlier {r t : Row} (h : LeR r t) (o1 : OkR r) (o2 : OkR t) : ∃ o, m__law_none_earlier [.t (.lst (r.map pD)), .t (.lst (t.map pD))] = .ok (.bl true) o := by
  obtain ⟨x', y', q⟩ := none_loop (A := .lst (r.map pD)) (L := .lst (t.map pD)) rfl r t .no .no h o1 o2 (.inl rfl) (.inl rfl)
  simp [m__law_none_earlier, q, h.len]
/-! ### hours made -/
theorem v_is_span {s : Sp2} (h0 : 0 ≤ s.1) (h1 : s.1 ≤ s.2) (h2 : s.2 ≤ 9999) : ∃ o, m_is_span [.t (spD2 s)] = .ok (.bl true) o := by
  obtain ⟨o1, e1⟩ := v_is_minute (i := s.1) h0 (by omega)
  obtain ⟨o2, e2⟩ := v_is_minute (i := s.2) (by omega) h2
  simp [m_is_span, spD2, isI_tup, atI0, atI1, e1, e2, h1]
theorem chn_mem : ∀ {l : List Sp2} {lo : Int}, 0 ≤ lo → Chn lo l → ∀ s ∈ l, 0 ≤ s.1 ∧ s.1 ≤ s.2
  | [], _, _, _, s, h => by cases h
  | p :: r, lo, h0, ⟨h1, h2, h3⟩, s, h => by
    rcases List.mem_cons.mp h with rfl | h
    · exact ⟨by omega, h2⟩
    · exact chn_mem (lo := p.2 + 1) (by omega) h3 s h
theorem chn_zip : ∀ {l : List Sp2} {lo : Int}, Chn lo l → ∀ p ∈ l.zip (l.drop 1), p.1.2 < p.2.1
  | [], _, _, p, h => by cases h
  | [a], _, _, p, h => by cases h
  | a :: b :: r, lo, ⟨h1, h2, h3⟩, p, h => by
    have h : p ∈ (a, b) :: (b :: r).zip r := h
    rcases List.mem_cons.mp h with rfl | h
    · obtain ⟨k1, _⟩ := h3
      show a.2 < b.1
      omega
    · exact chn_zip (l := b :: r) h3 p h
def prD (p : Sp2 × Sp2) : D := .tup [spD2 p.1, spD2 p.2]
theorem zip_prD : ∀ (l m : List Sp2), zipD (l.map spD2) (m.map spD2) = (l.zip m).map prD
  | [], _ => rfl
  | _ :: _, [] => rfl
  | a :: as, l :: ls => by
    show D.tup [spD2 a, spD2 l] :: zipD (as.map spD2) (ls.map spD2) = prD (a, l) :: (as.zip ls).map prD
    rw [zip_prD]
    rfl
theorem v_is_hours {h : Hrs} (g : GoodH h) : ∃ o, m_is_hours [.t (spansArg h)] = .ok (.bl true) o := by
  cases h with
  | none => simp [m_is_hours, spansArg]
  | some l =>
    obtain ⟨g1, g2, g3⟩ := g
    obtain ⟨o, e⟩ := v_is_list (l := l.map spD2)
    have hc := comp_map (g := gN 1) (e := callD 1 m_is_span [] (oCons (pE (eVar 1)) oNil)) (vs := [1]) (ρ := [.t (.lst (l.map spD2)), .no, .no]) (f := spD2) (h := fun _ => .bl true) (l := l) fun s hs => by
      obtain ⟨k1, k2⟩ := chn_mem (Int.le_refl 0) g2 s hs
      obtain ⟨o, e⟩ := v_is_span k1 k2 (g3 s hs)
      exact ⟨[.t (.lst (l.map spD2)), .t (spD2 s), .no], by simp, by simp [e], by simp⟩
    have hd := comp_map (g := gT 2 (gsCons (gN 1) (gsCons (gN 2) gsNil))) (e := eOp2 ltD (pE (eOp2 ixD (pV 1) (pE (eC (.int 1))))) (pE (eOp2 ixD (pV 2) (pE (eC (.int 0)))))) (vs := [1, 2]) (ρ := [.t (.lst (l.map spD2)), .no, .no]) (f := prD) (h := fun _ => .bl true) (l := l.zip (l.drop 1)) fun p hp => by
      have k := chn_zip g2 p hp
      exact ⟨[.t (.lst (l.map spD2)), .t (spD2 p.1), .t (spD2 p.2)], by simp [prD], by simp [spD2, atI0, atI1, k], by simp⟩
    have c1 : DL.cutD (l.map spD2) (some 1) none = (l.drop 1).map spD2 := by
      cases l with
      | nil => rfl
      | cons a r =>
        have := cut_from (l := (a :: r).map spD2) (k := 1) (by simp)
        rw [show ((1 : Nat) : Int) = 1 from rfl] at this
        rw [this]
        simp
    have n4 : ¬ (4 : Int) < (l.length : Int) := by omega
    have n5 : l.length ≤ 100000 := by omega
    have n6 : (l.zip (l.drop 1)).length ≤ 100000 := by rw [List.length_zip]; omega
    simp only [List.drop_one] at hd c1 n6
    have zz := zip_prD l l.tail
    rw [List.map_tail] at zz
    have n8 : l.length ≤ 100001 := by omega
    simp [m_is_hours, spansArg, e, hc, n4, n5, bls_true, all_true, c1, zz, hd, n8]
theorem v_init {h : Hrs} (g : GoodH h) : ∃ o, m_Hours___init__ [.p (.ins "Hours" []), .t (spansArg h)] = .ok .non (.p (.ins "Hours" [("own_spans", ownD' h)]) :: o) := by
  obtain ⟨o, e⟩ := v_is_hours g
  have hf : ∀ (d : D) (ρ : EnvD) (sv : SV), fldO ["Hours"] "own_spans" 0 d ρ (some (sv, "Hours", [])) = .nx (ρ.set 0 (reCell sv (.ins "Hours" [("own_spans", d)]))) := fun _ _ _ => rfl
  cases h with
  | none =>
    have e : m_is_hours [.t .non] = .ok (.bl true) o := e
    simp [-fldO_some, m_Hours___init__, e, spansArg, hf, ownD']
  | some l =>
    have e : m_is_hours [.t (.lst (l.map spD2))] = .ok (.bl true) o := e
    simp [-fldO_some, m_Hours___init__, e, spansArg, hf, ownD']
end K15

namespace K15
open PySem PySem.Spec PyProof.Rows L2 DL
/-! ### hours within hours -/
def inSp (s : Sp2) (l : List Sp2) : Bool := l.any fun p => decide (p.1 ≤ s.1) && decide (s.2 ≤ p.2)
theorem bls_map {α : Type} (l : List α) (f : α → Bool) : blsOf (l.map fun x => D.bl (f x)) = some (l.map f) := blsOf_map
theorem v_is_within {s : Sp2} {l : List Sp2} (hl : l.length ≤ 1000) : ∃ o, m_is_within [.t (spD2 s), .t (.tup (l.map spD2))] = .ok (.bl (inSp s l)) o := by
  have hc := comp_map (g := gT 2 (gsCons (gN 2) (gsCons (gN 3) gsNil))) (e := eAnd (eOp2 leD (pV 2) (pE (eOp2 ixD (pV 0) (pE (eC (.int 0)))))) (eOp2 leD (pE (eOp2 ixD (pV 0) (pE (eC (.int 1))))) (pV 3))) (vs := [2, 3]) (ρ := [.t (spD2 s), .t (.tup (l.map spD2)), .no, .no]) (f := spD2) (h := fun p => .bl (decide (p.1 ≤ s.1) && decide (s.2 ≤ p.2))) (l := l) fun p hp => by
    refine ⟨[.t (spD2 s), .t (.tup (l.map spD2)), .t (.int p.1), .t (.int p.2)], by simp [spD2], ?_, by simp⟩
    by_cases c : p.1 ≤ s.1 <;> simp [spD2, atI0, atI1, c]
  simp [m_is_within, hc, bls_map, Nat.le_trans hl (by decide : 1000 ≤ 100000), inSp]
theorem v_le {h1 h2 : Hrs} (k : h2 = none ∨ (∃ l m, h1 = some l ∧ h2 = some m ∧ l.length ≤ 1000 ∧ m.length ≤ 1000 ∧ ∀ s ∈ l, inSp s m = true)) : ∃ o, m_Hours___le__ [.t (hoursD h1), .t (hoursD h2)] = .ok (.bl true) o := by
  have hi : ∀ h, isI [.own "Hours"] (hoursD h) = some (.bl true) := fun h => isI_hours
  rcases k with rfl | ⟨l, m, rfl, rfl, n1, n2, k⟩
  · simp [m_Hours___le__, hi, fld_hours, ownD']
  · have hc := comp_map (g := gN 2) (e := callD 2 m_is_within [] (oCons (pE (eVar 2)) (oCons (pE (eOp1 (fldD ["Hours"] "own_spans") (pV 1))) oNil))) (vs := [2]) (ρ := [.t (hoursD (some l)), .t (hoursD (some m)), .no]) (f := spD2) (h := fun _ => .bl true) (l := l) fun s hs => by
      obtain ⟨o, e⟩ := v_is_within (s := s) (l := m) n2
      rw [k s hs] at e
      exact ⟨[.t (hoursD (some l)), .t (hoursD (some m)), .t (spD2 s)], by simp, by simp [fld_hours, ownD', e], by simp⟩
    simp [m_Hours___le__, hi, fld_hours, ownD', hc, bls_true, Nat.le_trans n1 (by decide : 1000 ≤ 100000)]
/-! ### meetings -/
theorem v_meet_begin {o : Int} {ms : List Mo} {q : Nat} (h1 : 1 ≤ q) (hl : ms.length < 64) : ∃ u, m_meet_begin [.t (.int o), .t (.lst (ms.map mD)), .t (.int q)] = .ok (mD (latG 0 [some o, nth ms q])) u := by
  obtain ⟨u1, e1⟩ := v_so_many_th (ms := ms) h1 hl
  obtain ⟨u2, e2⟩ := v_latest_of (ms := [some o, nth ms q])
  have e2 : m_latest_of [.t (.lst [.int o, mD (nth ms q)])] = .ok (mD (latG 0 [some o, nth ms q])) u2 := e2
  simp [m_meet_begin, e1, e2]
theorem v_meet_end {b : Mo} {n : Int} {a : Mo} : ∃ u, m_meet_end [.t (mD b), .t (.int n), .t (mD a)] = .ok (mD (latG 0 [addM b n, a])) u := by
  obtain ⟨u1, e1⟩ := v_moment_sum (a := b) (k := n)
  obtain ⟨u2, e2⟩ := v_latest_of (ms := [addM b n, a])
  have e2 : m_latest_of [.t (.lst [mD (addM b n), mD a])] = .ok (mD (latG 0 [addM b n, a])) u2 := e2
  simp [m_meet_end, e1, e2]
def meetG (o n : Int) (q : Nat) (ms : List Mo) : Row := ms.map fun a => (latG 0 [some o, nth ms q], latG 0 [addM (latG 0 [some o, nth ms q]) n, a])
theorem v_meeting_row {o n : Int} {q : Nat} {ms : List Mo} (ho : 0 ≤ o) (hn : 0 ≤ n) (ha : ∀ m ∈ ms, OkM m) (h1 : 1 ≤ q) (h2 : q ≤ ms.length) (hl : ms.length < 64) :
    ∃ u, m_meeting_row [.t (.int o), .t (.int n), .t (.int q), .t (.lst (ms.map mD))] = .okN (.lst ((meetG o n q ms).map pD)) u := by
  obtain ⟨u1, e1⟩ := v_check_whole ho
  obtain ⟨u2, e2⟩ := v_check_whole hn
  obtain ⟨u3, e3⟩ := v_check_moments (w := "arrivals") ha (by omega)
  obtain ⟨u4, e4⟩ := v_check_quorum (q := q) (ms := ms.map mD) (by omega) (by rw [List.length_map]; omega)
  obtain ⟨u5, e5⟩ := v_meet_begin (o := o) (ms := ms) h1 hl
  have hc := comp_map (g := gN 5) (e := fz (nTup (aCons (eVar 4) (aCons (callD 3 m_meet_end [] (oCons (pE (eVar 4)) (oCons (pE (eVar 1)) (oCons (pE (eVar 5)) (oNil))))) (aNil))))) (vs := [5])
    (ρ := [.t (.int o), .t (.int n), .t (.int q), .t (.lst (ms.map mD)), .t (mD (latG 0 [some o, nth ms q])), .no]) (f := mD) (h := fun a => pD (latG 0 [some o, nth ms q], latG 0 [addM (latG 0 [some o, nth ms q]) n, a])) (l := ms) fun a hm => by
      obtain ⟨u, e⟩ := v_meet_end (b := latG 0 [some o, nth ms q]) (n := n) (a := a)
      exact ⟨[.t (.int o), .t (.int n), .t (.int q), .t (.lst (ms.map mD)), .t (mD (latG 0 [some o, nth ms q])), .t (mD a)], by simp, by simp [e, pD], by simp⟩
  have hm : (meetG o n q ms).map pD = ms.map (fun a => pD (latG 0 [some o, nth ms q], latG 0 [addM (latG 0 [some o, nth ms q]) n, a])) := by
    unfold meetG
    rw [List.map_map]
    rfl
  rw [hm]
  simp [m_meeting_row, e1, e2, e3, e4, e5, hc, Nat.le_trans (Nat.le_of_lt hl) (by decide : 64 ≤ 100000)]
/-! ### rooms -/
theorem v_turned_begin {a e : Mo} {t : Int} : ∃ u, m_turned_begin [.t (mD a), .t (mD e), .t (.int t)] = .ok (mD (latG 0 [a, addM e t])) u := by
  obtain ⟨u1, e1⟩ := v_moment_sum (a := e) (k := t)
  obtain ⟨u2, e2⟩ := v_latest_of (ms := [a, addM e t])
  have e2 : m_latest_of [.t (.lst [mD a, mD (addM e t)])] = .ok (mD (latG 0 [a, addM e t])) u2 := e2
  simp [m_turned_begin, e1, e2]
def earlyG (b : Mo) (n k : Int) (x : Mo) : Mo := firstG none [addM b n, addM (latG 0 [b, x]) k]
theorem v_early_end {b : Mo} {n k : Int} {x : Mo} : ∃ u, m_early_end [.t (mD b), .t (.int n), .t (.int k), .t (mD x)] = .ok (mD (earlyG b n k x)) u := by
  obtain ⟨u1, e1⟩ := v_moment_sum (a := b) (k := n)
  obtain ⟨u2, e2⟩ := v_latest_of (ms := [b, x])
  have e2 : m_latest_of [.t (.lst [mD b, mD x])] = .ok (mD (latG 0 [b, x])) u2 := e2
  obtain ⟨u3, e3⟩ := v_moment_sum (a := latG 0 [b, x]) (k := k)
  obtain ⟨u4, e4⟩ := v_first_of (ms := [addM b n, addM (latG 0 [b, x]) k])
  have e4 : m_first_of [.t (.lst [mD (addM b n), mD (addM (latG 0 [b, x]) k)])] = .ok (mD (earlyG b n k x)) u4 := e4
  simp [m_early_end, e1, e2, e3, e4]
end K15

namespace K15
open PySem PySem.Spec PyProof.Rows L2 DL
/-- a row of a room: what stood ahead's end (none: nobody), then arrival, length, notice -/
def rBegin (t : Int) (prev : Option Mo) (a : Mo) : Mo := match prev with
  | none => a
  | some e => latG 0 [a, addM e t]
def rEnd (b : Mo) (n : Int) (k : Mo) : List Mo → Mo
  | [] => addM b n
  | x :: _ => match k with
    | none => addM b n
    | some k => earlyG b n k x
def roomL (t : Int) : Option Mo → List Mo → List Int → List Mo → Row
  | prev, a :: as, n :: ns, k :: ks => (rBegin t prev a, rEnd (rBegin t prev a) n k as) :: roomL t (some (rEnd (rBegin t prev a) n k as)) as ns ks
  | _, _, _, _ => []
theorem drop_get {α : Type} {l r : List α} {i : Nat} {x : α} (h : l.drop i = x :: r) : l[i]? = some x ∧ l.drop (i + 1) = r := by
  have h1 : (l.drop i)[0]? = some x := by rw [h]; rfl
  rw [List.getElem?_drop, Nat.add_zero] at h1
  refine ⟨h1, ?_⟩
  have h2 : (l.drop i).drop 1 = r := by rw [h]; rfl
  rw [List.drop_drop] at h2
  exact h2
theorem atI_map {α : Type} {l : List α} {f : α → D} {i : Nat} {x : α} (h : l[i]? = some x) : atI (l.map f) (i : Int) = some (f x) := by
  have hl : i < l.length := (List.getElem?_eq_some_iff.mp h).1
  rw [atI_nat (by rw [List.length_map]; exact hl), List.getElem?_map, h]
  rfl
theorem room_loop {as ns : List Mo} {ls : List Int} {t : Int} {body : EnvD → RS} (hb : body = sSeq (sSet 7 (eIf (tB (eOp2 eqD (pV 5) (pE (eC (.int 0))))) (eVar 6) (callD 3 m_turned_begin [] (oCons (pE (eVar 6)) (oCons (pE (eOp2 ixD (pE (eOp2 ixD (pV 4) (pE (eOp1 negD (pE (eC (.int 1))))))) (pE (eC (.int 1))))) (oCons (pE (eVar 2)) (oNil)))))))
  (sIf (wOr (tB (eOp2 isD (pE (eOp2 ixD (pV 3) (pV 5))) (pE (eC .non)))) (tB (eOp2 eqD (pE (eOp2 plusD (pV 5) (pE (eC (.int 1))))) (pE (eCall lenD (oCons (pV 0) (oNil)))))))
   (sDrop (cellM 4 gApp (aCons (fz (nTup (aCons (eVar 7) (aCons (callD 2 m_moment_sum [] (oCons (pE (eVar 7)) (oCons (pE (eOp2 ixD (pV 1) (pV 5))) (oNil)))) (aNil))))) (aNil))))
   (sDrop (cellM 4 gApp (aCons (fz (nTup (aCons (eVar 7) (aCons (callD 4 m_early_end [] (oCons (pE (eVar 7)) (oCons (pE (eOp2 ixD (pV 1) (pV 5))) (oCons (pE (eOp2 ixD (pV 3) (pV 5))) (oCons (pE (eOp2 ixD (pV 0) (pE (eOp2 plusD (pV 5) (pE (eC (.int 1))))))) (oNil)))))) (aNil))))) (aNil)))))) :
    ∀ (sa : List Mo) (sl : List Int) (sn : List Mo) (i : Nat) (found : Row) (prev : Option Mo) (x y z : SV), as.drop i = sa → ls.drop i = sl → ns.drop i = sn → sl.length = sa.length → sn.length = sa.length → as.length = i + sa.length → as.length < 64 → found.length = i →
    ((i = 0 ∧ prev = none) ∨ (i ≠ 0 ∧ ∃ f0 b e, found = f0 ++ [(b, e)] ∧ prev = some e)) → (x = .no ∨ ∃ d, x = .t d) → (y = .no ∨ ∃ d, y = .t d) → (z = .no ∨ ∃ d, z = .t d) →
    ∃ x' y' z', forL (gT 2 (gsCons (gN 5) (gsCons (gN 6) gsNil))) body (enumD i (sa.map mD)) [.t (.lst (as.map mD)), .t (.lst (ls.map D.int)), .t (.int t), .t (.lst (ns.map mD)), .c (.lst (found.map pD)), x, y, z] =
      .nx [.t (.lst (as.map mD)), .t (.lst (ls.map D.int)), .t (.int t), .t (.lst (ns.map mD)), .c (.lst ((found ++ roomL t prev sa sl sn).map pD)), x', y', z']
  | [], sl, sn, i, found, prev, x, y, z, _, _, _, _, _, _, _, _, _, _, _, _ => ⟨x, y, z, by simp [roomL, enumD]⟩
  | a :: sa, [], sn, i, found, prev, x, y, z, _, _, _, h, _, _, _, _, _, _, _, _ => by simp at h
  | a :: sa, n :: sl, [], i, found, prev, x, y, z, _, _, _, _, h, _, _, _, _, _, _, _ => by simp at h
  | a :: sa, n :: sl, k :: sn, i, found, prev, x, y, z, ha, hl, hn, l1, l2, l3, l4, lf, hp, hx, hy, hz => by
    obtain ⟨a1, a2⟩ := drop_get ha
    obtain ⟨b1, b2⟩ := drop_get hl
    obtain ⟨c1, c2⟩ := drop_get hn
    simp only [List.length_cons] at l1 l2 l3
    show ∃ x' y' z', forL _ body (.tup [.int (i : Nat), mD a] :: enumD (i + 1) (sa.map mD)) _ = _
    rw [forL_cons (ρ' := [.t (.lst (as.map mD)), .t (.lst (ls.map D.int)), .t (.int t), .t (.lst (ns.map mD)), .c (.lst (found.map pD)), .t (.int (i : Nat)), .t (mD a), z]) (by rcases hx with rfl | ⟨d, rfl⟩ <;> rcases hy with rfl | ⟨d', rfl⟩ <;> simp)]
    have e1 := atI_map (f := D.int) b1
    have e2 := atI_map (f := mD) c1
    have lf2 : found.length < 10000 := by omega
    -- the begin
    have hset : sSet 7 (eIf (tB (eOp2 eqD (pV 5) (pE (eC (.int 0))))) (eVar 6) (callD 3 m_turned_begin [] (oCons (pE (eVar 6)) (oCons (pE (eOp2 ixD (pE (eOp2 ixD (pV 4) (pE (eOp1 negD (pE (eC (.int 1))))))) (pE (eC (.int 1))))) (oCons (pE (eVar 2)) (oNil)))))) [.t (.lst (as.map mD)), .t (.lst (ls.map D.int)), .t (.int t), .t (.lst (ns.map mD)), .c (.lst (found.map pD)), .t (.int (i : Nat)), .t (mD a), z] =
        .nx [.t (.lst (as.map mD)), .t (.lst (ls.map D.int)), .t (.int t), .t (.lst (ns.map mD)), .c (.lst (found.map pD)), .t (.int (i : Nat)), .t (mD a), .t (mD (rBegin t prev a))] := by
      rcases hp with ⟨rfl, rfl⟩ | ⟨hi, f0, b, e, rfl, rfl⟩
      · rcases hz with rfl | ⟨d, rfl⟩ <;> simp [rBegin]
      · obtain ⟨u, q⟩ := v_turned_begin (a := a) (e := e) (t := t)
        have hlast : atI (f0.map pD ++ [pD (b, e)]) (-1) = some (pD (b, e)) := atI_last
        have hi' : ¬ (i : Int) = 0 := by omega
        have h1 : ixD (pD (b, e)) (.int 1) = some (mD e) := atI1
        rcases hz with rfl | ⟨d, rfl⟩ <;> simp [rBegin, hi, hlast, q, h1]
    obtain ⟨u, q⟩ := v_moment_sum (a := rBegin t prev a) (k := n)
    have hb' : body [.t (.lst (as.map mD)), .t (.lst (ls.map D.int)), .t (.int t), .t (.lst (ns.map mD)), .c (.lst (found.map pD)), .t (.int (i : Nat)), .t (mD a), z] =
        .nx [.t (.lst (as.map mD)), .t (.lst (ls.map D.int)), .t (.int t), .t (.lst (ns.map mD)), .c (.lst ((found ++ [(rBegin t prev a, rEnd (rBegin t prev a) n k sa)]).map pD)), .t (.int (i : Nat)), .t (mD a), .t (mD (rBegin t prev a))] := by
      subst hb
      rw [sSeq_ev, hset, RS.bind_nx]
      cases k with
      | none =>
        rw [mD_none] at e2
        have hr : rEnd (rBegin t prev a) n none sa = addM (rBegin t prev a) n := by cases sa <;> rfl
        rw [hr]
        simp [e1, e2, q, lf2, pD]
      | some k =>
        rw [mD_some] at e2
        cases sa with
        | nil =>
          have hlen : ((i : Int) + 1 = (as.length : Int)) := by simp at l3; omega
          simp [e1, e2, q, lf2, pD, hlen, rEnd]
        | cons b sa =>
          obtain ⟨d1, _⟩ := drop_get a2
          have e3 := atI_map (f := mD) d1
          have e3 : atI (as.map mD) ((i : Int) + 1) = some (mD b) := by
            have : (((i + 1 : Nat)) : Int) = (i : Int) + 1 := by omega
            rw [this] at e3
            exact e3
          have hlen : ¬ ((i : Int) + 1 = (as.length : Int)) := by simp only [List.length_cons] at l3; omega
          obtain ⟨u2, q2⟩ := v_early_end (b := rBegin t prev a) (n := n) (k := k) (x := b)
          simp [e1, e2, e3, q2, lf2, pD, hlen, rEnd]
    rw [hb', forK_nx]
    obtain ⟨x', y', z', r⟩ := room_loop hb sa sl sn (i + 1) (found ++ [(rBegin t prev a, rEnd (rBegin t prev a) n k sa)]) (some (rEnd (rBegin t prev a) n k sa)) _ _ _ a2 b2 c2 (by omega) (by omega) (by omega) l4 (by simp [lf]) (.inr ⟨by omega, _, _, _, rfl, rfl⟩) (.inr ⟨_, rfl⟩) (.inr ⟨_, rfl⟩) (.inr ⟨_, rfl⟩)
    exact ⟨x', y', z', by rw [r, roomL, List.append_assoc]; rfl⟩
def roomG (as : List Mo) (ls : List Int) (t : Int) (ns : List Mo) : Row := roomL t none as ls ns
theorem v_room_row {as ns : List Mo} {ls : List Int} {t : Int} (ha : ∀ m ∈ as, OkM m) (hls : ∀ i ∈ ls, 0 ≤ i) (ht : 0 ≤ t) (hn : ∀ m ∈ ns, OkM m) (l1 : ls.length = as.length) (l2 : ns.length = as.length) (l3 : as.length < 64) :
    ∃ o, m_room_row [.t (.lst (as.map mD)), .t (.lst (ls.map D.int)), .t (.int t), .t (.lst (ns.map mD))] = .okN (.lst ((roomG as ls t ns).map pD)) o := by
  obtain ⟨o1, e1⟩ := v_check_moments (w := "arrivals") ha (by omega)
  obtain ⟨o2, e2⟩ := v_check_counts (w := "lengths") hls (by omega)
  rw [l1] at e2
  obtain ⟨o3, e3⟩ := v_check_whole ht
  obtain ⟨o4, e4⟩ := v_check_notices hn (by omega)
  rw [l2] at e4
  obtain ⟨x', y', z', q⟩ := room_loop (as := as) (ns := ns) (ls := ls) (t := t) rfl as ls ns 0 [] none .no .no .no rfl rfl rfl l1 l2 (by simp) l3 rfl (.inl ⟨rfl, rfl⟩) (.inl rfl) (.inl rfl) (.inl rfl)
  simp only [List.map_nil, List.nil_append] at q
  simp [m_room_row, e1, e2, e3, e4, q, roomG]
end K15

namespace K15
open PySem PySem.Spec PyProof.Rows L2 DL
/-! ### at x or ahead of it -/
def AtM (a : Mo) (x : Int) : Prop := ∃ i, a = some i ∧ i ≤ x
theorem at_some {i x : Int} : AtM (some i) x ↔ i ≤ x := ⟨fun ⟨j, e, h⟩ => by cases e; exact h, fun h => ⟨i, rfl, h⟩⟩
theorem at_none {x : Int} : ¬ AtM none x := fun ⟨_, e, _⟩ => by cases e
theorem le_iff {a b : Mo} : leM a b ↔ ∀ x, AtM b x → AtM a x := by
  cases b with
  | none => exact ⟨fun _ x h => (at_none h).elim, fun _ => rfl⟩
  | some j =>
    cases a with
    | none => exact ⟨fun h => (by cases h), fun h => (at_none (h j (at_some.mpr (Int.le_refl _)))).elim⟩
    | some i =>
      refine ⟨fun h x hx => ?_, fun h => ?_⟩
      · have h : decide (j < i) = false := h
        have h := of_decide_eq_false h
        rw [at_some] at hx ⊢
        omega
      · have := at_some.mp (h j (at_some.mpr (Int.le_refl _)))
        show decide (j < i) = false
        exact decide_eq_false (by omega)
theorem ok_iff {a : Mo} : OkM a ↔ ∀ x, AtM a x → 0 ≤ x := by
  refine ⟨fun h x ⟨i, e, hi⟩ => Int.le_trans (h i e) hi, fun h i e => h i ⟨i, e, Int.le_refl _⟩⟩
theorem le_refl {a : Mo} : leM a a := le_iff.mpr fun _ h => h
theorem at_add {a : Mo} {k x : Int} : AtM (addM a k) x ↔ AtM a (x - k) := by
  cases a with
  | none => exact ⟨fun h => (at_none h).elim, fun h => (at_none h).elim⟩
  | some i =>
    show AtM (some (i + k)) x ↔ _
    rw [at_some, at_some]
    omega
theorem at_mono {a : Mo} {x y : Int} (h : AtM a x) (hxy : x ≤ y) : AtM a y := let ⟨i, e, hi⟩ := h; ⟨i, e, Int.le_trans hi hxy⟩
theorem at_lat {x : Int} : ∀ {ms : List Mo} {acc : Int}, AtM (latG acc ms) x ↔ acc ≤ x ∧ ∀ m ∈ ms, AtM m x
  | [], acc => by
    show AtM (some acc) x ↔ _
    rw [at_some]
    simp
  | none :: r, acc => ⟨fun h => (at_none h).elim, fun h => (at_none (h.2 none List.mem_cons_self)).elim⟩
  | some i :: r, acc => by
    show AtM (latG (if acc < i then i else acc) r) x ↔ _
    rw [at_lat]
    constructor
    · intro ⟨h1, h2⟩
      have : acc ≤ x ∧ i ≤ x := by split at h1 <;> omega
      refine ⟨this.1, fun m hm => ?_⟩
      rcases List.mem_cons.mp hm with rfl | hm
      · exact at_some.mpr this.2
      · exact h2 m hm
    · intro ⟨h1, h2⟩
      have := at_some.mp (h2 (some i) List.mem_cons_self)
      exact ⟨by split <;> omega, fun m hm => h2 m (List.mem_cons_of_mem _ hm)⟩
theorem at_lat2 {a b : Mo} {x : Int} : AtM (latG 0 [a, b]) x ↔ 0 ≤ x ∧ AtM a x ∧ AtM b x := by rw [at_lat]; simp
theorem at_lat3 {a b c : Mo} {x : Int} : AtM (latG 0 [a, b, c]) x ↔ 0 ≤ x ∧ AtM a x ∧ AtM b x ∧ AtM c x := by rw [at_lat]; simp
theorem at_first {x : Int} : ∀ {ms : List Mo} {acc : Mo}, AtM (firstG acc ms) x ↔ AtM acc x ∨ ∃ m ∈ ms, AtM m x
  | [], acc => by show AtM acc x ↔ _; simp
  | m :: r, acc => by
    show AtM (firstG (if ltM m acc = true then m else acc) r) x ↔ _
    rw [at_first]
    have key : AtM (if ltM m acc = true then m else acc) x ↔ AtM acc x ∨ AtM m x := by
      cases c : ltM m acc with
      | true =>
        rw [if_pos rfl]
        refine ⟨.inr, fun h => h.elim (fun h' => ?_) id⟩
        cases m with
        | none => cases c
        | some i =>
          cases acc with
          | none => exact (at_none h').elim
          | some j =>
            have c : decide (i < j) = true := c
            have := of_decide_eq_true c
            rw [at_some] at h' ⊢
            omega
      | false =>
        rw [if_neg (by decide)]
        exact ⟨.inl, fun h => h.elim id fun h => le_iff.mp c x h⟩
    rw [key]
    simp [or_assoc]
theorem at_first2 {a b : Mo} {x : Int} : AtM (firstG none [a, b]) x ↔ AtM a x ∨ AtM b x := by
  rw [at_first]
  simp [at_none]
/-! ### the n-th -/
def atB (x : Int) (m : Mo) : Bool := match m with
  | none => false
  | some i => decide (i ≤ x)
def cnt (ms : List Mo) (x : Int) : Nat := (ms.filter (atB x)).length
theorem sorted_at {x : Int} : ∀ (l : List Int) (k : Nat), l.Pairwise (· ≤ ·) → ((∃ v, l[k]? = some v ∧ v ≤ x) ↔ k < (l.filter fun i => decide (i ≤ x)).length)
  | [], k, _ => by simp
  | v :: r, k, h => by
    obtain ⟨h1, h2⟩ := List.pairwise_cons.mp h
    by_cases c : v ≤ x
    · rw [List.filter_cons_of_pos (by simp [c])]
      cases k with
      | zero => simp [c]
      | succ k =>
        have := sorted_at (x := x) r k h2
        simp only [List.getElem?_cons_succ, List.length_cons, Nat.add_lt_add_iff_right]
        exact this
    · rw [List.filter_cons_of_neg (by simp [c])]
      have hr : r.filter (fun i => decide (i ≤ x)) = [] := by
        rw [List.filter_eq_nil_iff]
        intro y hy
        have := h1 y hy
        simp
        omega
      rw [hr]
      constructor
      · rintro ⟨w, hw, hx⟩
        exfalso
        cases k with
        | zero =>
          simp at hw
          omega
        | succ k =>
          simp only [List.getElem?_cons_succ] at hw
          have := h1 w (List.mem_of_getElem? hw)
          omega
      · intro h
        simp at h
theorem cnt_ints {x : Int} : ∀ ms : List Mo, ((ms.filterMap id).filter fun i => decide (i ≤ x)).length = cnt ms x
  | [] => rfl
  | none :: r => by
    show ((r.filterMap id).filter _).length = ((none :: r).filter (atB x)).length
    rw [List.filter_cons_of_neg (by simp [atB])]
    exact cnt_ints r
  | some i :: r => by
    show ((i :: r.filterMap id).filter _).length = ((some i :: r).filter (atB x)).length
    have ih := cnt_ints (x := x) r
    by_cases c : i ≤ x
    · rw [List.filter_cons_of_pos (by simp [c]), List.filter_cons_of_pos (by simp [atB, c]), List.length_cons, List.length_cons, ih]
      rfl
    · rw [List.filter_cons_of_neg (by simp [c]), List.filter_cons_of_neg (by simp [atB, c])]
      exact ih
theorem at_nth {ms : List Mo} {n : Nat} {x : Int} (h : 1 ≤ n) : AtM (nth ms n) x ↔ n ≤ cnt ms x := by
  have hs := sorted_at (x := x) (isort (ms.filterMap id)) (n - 1) (isort_up _)
  have hp : ((isort (ms.filterMap id)).filter fun i => decide (i ≤ x)).length = cnt ms x := by
    rw [← cnt_ints]
    exact ((isort_perm _).filter _).length_eq
  rw [hp] at hs
  unfold AtM nth
  rw [hs]
  omega
def LeL : List Mo → List Mo → Prop
  | [], [] => True
  | a :: r, b :: t => leM a b ∧ LeL r t
  | _, _ => False
theorem LeL.len : ∀ {r t : List Mo}, LeL r t → r.length = t.length
  | [], [], _ => rfl
  | _ :: _, _ :: _, ⟨_, h⟩ => by rw [List.length_cons, List.length_cons, h.len]
  | [], _ :: _, h => h.elim
  | _ :: _, [], h => h.elim
theorem LeL.refl : ∀ {r : List Mo}, LeL r r
  | [] => trivial
  | _ :: _ => ⟨le_refl, LeL.refl⟩
theorem LeL.app {a b : Mo} (hab : leM a b) : ∀ {r t : List Mo}, LeL r t → LeL (r ++ [a]) (t ++ [b])
  | [], [], _ => ⟨hab, trivial⟩
  | _ :: _, _ :: _, ⟨h1, h2⟩ => ⟨h1, LeL.app hab h2⟩
  | [], _ :: _, h => h.elim
  | _ :: _, [], h => h.elim
theorem atB_iff {x : Int} {m : Mo} : atB x m = true ↔ AtM m x := by
  cases m with
  | none => simp [atB, at_none]
  | some i => rw [at_some]; simp [atB]
theorem LeL.cnt {x : Int} : ∀ {r t : List Mo}, LeL r t → K15.cnt t x ≤ K15.cnt r x
  | [], [], _ => Nat.le_refl _
  | a :: r, b :: t, ⟨h1, h2⟩ => by
    have ih := LeL.cnt (x := x) h2
    unfold K15.cnt at ih ⊢
    by_cases cb : atB x b = true
    · have ca : atB x a = true := atB_iff.mpr (le_iff.mp h1 x (atB_iff.mp cb))
      rw [List.filter_cons_of_pos ca, List.filter_cons_of_pos cb, List.length_cons, List.length_cons]
      omega
    · rw [List.filter_cons_of_neg cb]
      by_cases ca : atB x a = true
      · rw [List.filter_cons_of_pos ca, List.length_cons]
        omega
      · rw [List.filter_cons_of_neg ca]
        exact ih
  | [], _ :: _, h => h.elim
  | _ :: _, [], h => h.elim
theorem nth_mono {ms ts : List Mo} {n m : Nat} (h1 : 1 ≤ n) (h : n ≤ m) (l : LeL ms ts) : leM (nth ms n) (nth ts m) := le_iff.mpr fun x hx => by
  rw [at_nth (by omega)] at hx
  rw [at_nth h1]
  have := l.cnt (x := x)
  omega
theorem free_at {ends ends' : List Mo} {d d' : Nat} {x : Int} (h0 : 0 ≤ x) (hd : d' ≤ d) (l : LeL ends ends') (hx : AtM (freeG ends' d') x) : AtM (freeG ends d) x := by
  have hl := l.len
  unfold freeG at hx ⊢
  by_cases c : ends.length < d
  · rw [if_pos c]
    exact at_some.mpr h0
  · rw [if_neg c]
    rw [if_neg (by omega), at_nth (by omega)] at hx
    rw [at_nth (by omega)]
    have := l.cnt (x := x)
    omega
/-! ### gates -/
theorem chn_ge : ∀ {l : List Sp2} {lo : Int}, Chn lo l → ∀ s ∈ l, lo ≤ s.1
  | [], _, _, s, h => by cases h
  | p :: r, lo, ⟨h1, h2, h3⟩, s, h => by
    rcases List.mem_cons.mp h with rfl | h
    · exact h1
    · have := chn_ge h3 s h
      omega
theorem gate_some {n t b : Int} : ∀ {l : List Sp2}, gateL n t l = some b → t ≤ b ∧ ∃ s ∈ l, s.1 ≤ b ∧ b + n ≤ s.2
  | [], h => by cases h
  | p :: r, h => by
    rw [gateL] at h
    by_cases c : (if t < p.1 then p.1 else t) + n ≤ p.2
    · rw [if_pos c] at h
      cases h
      have : t ≤ (if t < p.1 then p.1 else t) ∧ p.1 ≤ (if t < p.1 then p.1 else t) := by split <;> omega
      exact ⟨this.1, p, List.mem_cons_self, this.2, c⟩
    · rw [if_neg c] at h
      obtain ⟨h1, s, hs, h2⟩ := gate_some h
      exact ⟨h1, s, List.mem_cons_of_mem _ hs, h2⟩
theorem gate_ex {n t bb : Int} (hn : 0 ≤ n) (ht : t ≤ bb) : ∀ {l : List Sp2} {lo : Int} {s : Sp2}, Chn lo l → s ∈ l → s.1 ≤ bb → bb + n ≤ s.2 → ∃ b, gateL n t l = some b ∧ b ≤ bb
  | [], _, _, _, h, _, _ => by cases h
  | p :: r, lo, s, ⟨c1, c2, c3⟩, h, h1, h2 => by
    rw [gateL]
    by_cases c : (if t < p.1 then p.1 else t) + n ≤ p.2
    · rw [if_pos c]
      refine ⟨_, rfl, ?_⟩
      rcases List.mem_cons.mp h with rfl | h
      · split <;> omega
      · have := chn_ge c3 s h
        omega
    · rw [if_neg c]
      rcases List.mem_cons.mp h with rfl | h
      · exfalso
        apply c
        split <;> omega
      · exact gate_ex hn ht c3 h h1 h2
/-- h' lies within h -/
def Within (h' h : Hrs) : Prop := match h', h with
  | _, none => True
  | none, some _ => False
  | some l', some l => ∀ s' ∈ l', ∃ s ∈ l, s.1 ≤ s'.1 ∧ s'.2 ≤ s.2
theorem gate_at {h h' : Hrs} {n n' : Int} {t t' : Mo} {x : Int} (g : GoodH h) (w : Within h' h) (hn : 0 ≤ n) (hnn : n ≤ n') (ht : leM t t') (hx : AtM (gateG h' n' t') x) : AtM (gateG h n t) x := by
  cases t' with
  | none => cases h' <;> exact (at_none hx).elim
  | some τ' =>
    obtain ⟨τ, rfl, hτ⟩ := le_iff.mp ht τ' (at_some.mpr (Int.le_refl _))
    have low : ∃ b', gateG h' n' (some τ') = some b' ∧ τ' ≤ b' ∧ b' ≤ x := by
      obtain ⟨b', e, hb⟩ := hx
      refine ⟨b', e, ?_, hb⟩
      cases h' with
      | none => cases e; exact Int.le_refl _
      | some l' => exact (gate_some e).1
    obtain ⟨b', e, h1, h2⟩ := low
    cases h with
    | none => exact at_some.mpr (by omega)
    | some l =>
      cases h' with
      | none => exact w.elim
      | some l' =>
        obtain ⟨_, s', hs', k1, k2⟩ := gate_some e
        obtain ⟨s, hs, k3, k4⟩ := w s' hs'
        obtain ⟨b, eb, hb⟩ := gate_ex (bb := b') hn (by omega : τ ≤ b') g.2.1 hs (by omega) (by omega)
        exact ⟨b, eb, by omega⟩
theorem gate_ge {h : Hrs} {n : Int} {t : Mo} {x : Int} (hx : AtM (gateG h n t) x) : AtM t x := by
  cases t with
  | none => cases h <;> exact hx
  | some τ =>
    cases h with
    | none => exact hx
    | some l =>
      obtain ⟨b, e, hb⟩ := hx
      have := (gate_some e).1
      exact at_some.mpr (by omega)
end K15

namespace K15
open PySem PySem.Spec PyProof.Rows L2 DL
/-! ### rows of counters -/
def LeI : List (Mo × Int) → List (Mo × Int) → Prop
  | [], [] => True
  | a :: r, b :: t => leM a.1 b.1 ∧ 0 ≤ a.2 ∧ a.2 ≤ b.2 ∧ LeI r t
  | _, _ => False
theorem begin_le {a a' b b' : Mo} {ends ends' : List Mo} {d d' : Nat} {h h' : Hrs} {n n' : Int} (g : GoodH h) (w : Within h' h) (hd : d' ≤ d) (ha : leM a a') (hb : leM b b') (he : LeL ends ends') (hn : 0 ≤ n) (hnn : n ≤ n') : leM (beginG a b ends d h n) (beginG a' b' ends' d' h' n') :=
  le_iff.mpr fun x hx => gate_at g w hn hnn (le_iff.mpr fun y hy => by
    rw [at_lat3] at hy ⊢
    obtain ⟨h0, h1, h2, h3⟩ := hy
    exact ⟨h0, le_iff.mp ha y h1, le_iff.mp hb y h2, free_at h0 hd he h3⟩) hx
theorem add_le {a b : Mo} {i j : Int} (h : leM a b) (hij : i ≤ j) : leM (addM a i) (addM b j) := le_iff.mpr fun x hx => by
  rw [at_add] at hx ⊢
  exact at_mono (le_iff.mp h _ hx) (by omega)
theorem row_le {h h' : Hrs} {d d' : Nat} (g : GoodH h) (w : Within h' h) (hd : d' ≤ d) : ∀ {l l' : List (Mo × Int)} {b b' : Mo} {ends ends' : List Mo}, LeI l l' → leM b b' → LeL ends ends' → LeR (rowG h d b ends l) (rowG h' d' b' ends' l')
  | [], [], _, _, _, _, _, _, _ => trivial
  | x :: l, y :: l', b, b', ends, ends', ⟨h1, h2, h3, h4⟩, hb, he => by
    have k := begin_le g w hd h1 hb he h2 h3
    have k2 := add_le k h3
    exact ⟨k, k2, row_le g w hd h4 k (he.app k2)⟩
  | [], _ :: _, _, _, _, _, h, _, _ => h.elim
  | _ :: _, [], _, _, _, _, h, _, _ => h.elim
theorem begin_ok {a b : Mo} {ends : List Mo} {d : Nat} {h : Hrs} {n : Int} : OkM (beginG a b ends d h n) := ok_iff.mpr fun x hx => (at_lat3.mp (gate_ge hx)).1
theorem add_ok {a : Mo} {i : Int} (h : OkM a) (hi : 0 ≤ i) : OkM (addM a i) := ok_iff.mpr fun x hx => by
  have := ok_iff.mp h _ (at_add.mp hx)
  omega
theorem row_ok {h : Hrs} {d : Nat} : ∀ {l : List (Mo × Int)} {b : Mo} {ends : List Mo}, (∀ x ∈ l, 0 ≤ x.2) → OkR (rowG h d b ends l)
  | [], _, _, _, p, hp => by cases hp
  | x :: l, b, ends, k, p, hp => by
    rcases List.mem_cons.mp hp with rfl | hp
    · exact ⟨begin_ok, add_ok begin_ok (k x List.mem_cons_self)⟩
    · exact row_ok (fun y hy => k y (List.mem_cons_of_mem _ hy)) p hp
theorem zip_mem {as : List Mo} {ls : List Int} (h : ∀ i ∈ ls, 0 ≤ i) : ∀ x ∈ as.zip ls, 0 ≤ x.2 := fun x hx => h _ (List.of_mem_zip hx).2
theorem counter_ok {as : List Mo} {ls : List Int} {d : Nat} {h : Hrs} (hl : ∀ i ∈ ls, 0 ≤ i) : OkR (counterG as ls d h) := row_ok (zip_mem hl)
def LeZ : List Int → List Int → Prop
  | [], [] => True
  | a :: r, b :: t => a ≤ b ∧ LeZ r t
  | _, _ => False
theorem LeZ.refl : ∀ {r : List Int}, LeZ r r
  | [] => trivial
  | _ :: _ => ⟨Int.le_refl _, LeZ.refl⟩
theorem zip_le : ∀ {as bs : List Mo} {ls ms : List Int}, LeL as bs → LeZ ls ms → (∀ i ∈ ls, 0 ≤ i) → LeI (as.zip ls) (bs.zip ms)
  | [], [], _, _, _, _, _ => by simp [LeI]
  | _ :: _, _ :: _, [], [], _, _, _ => by simp [LeI]
  | a :: as, b :: bs, l :: ls, m :: ms, ⟨h1, h2⟩, ⟨h3, h4⟩, h => ⟨h1, h l List.mem_cons_self, h3, zip_le h2 h4 fun i hi => h i (List.mem_cons_of_mem _ hi)⟩
  | [], _ :: _, _, _, h, _, _ => h.elim
  | _ :: _, [], _, _, h, _, _ => h.elim
  | _ :: _, _ :: _, [], _ :: _, _, h, _ => h.elim
  | _ :: _, _ :: _, _ :: _, [], _, h, _ => h.elim
theorem counter_le {as bs : List Mo} {ls ms : List Int} {d d' : Nat} {h h' : Hrs} (g : GoodH h) (w : Within h' h) (hd : d' ≤ d) (ha : LeL as bs) (hl : LeZ ls ms) (h0 : ∀ i ∈ ls, 0 ≤ i) : LeR (counterG as ls d h) (counterG bs ms d' h') :=
  row_le g w hd (zip_le ha hl h0) le_refl trivial
theorem within_refl {h : Hrs} : Within h h := by
  cases h with
  | none => trivial
  | some l => exact fun s hs => ⟨s, hs, Int.le_refl _, Int.le_refl _⟩
theorem set_le : ∀ {l : List Mo} {k : Nat} {x : Mo}, (∀ y, l[k]? = some y → leM y x) → LeL l (l.set k x)
  | [], _, _, _ => trivial
  | a :: l, 0, x, h => ⟨h a rfl, LeL.refl⟩
  | a :: l, k + 1, x, h => ⟨le_refl, set_le fun y hy => h y (by simpa using hy)⟩
theorem setZ_le : ∀ {l : List Int} {k : Nat} {x : Int}, (∀ y, l[k]? = some y → y ≤ x) → LeZ l (l.set k x)
  | [], _, _, _ => trivial
  | a :: l, 0, x, h => ⟨h a rfl, LeZ.refl⟩
  | a :: l, k + 1, x, h => ⟨Int.le_refl _, setZ_le fun y hy => h y (by simpa using hy)⟩
theorem add_self_le {a : Mo} {i : Int} (h : 0 ≤ i) : leM a (addM a i) := le_iff.mpr fun x hx => at_mono (at_add.mp hx) (by omega)
theorem set_ok {l : List Mo} {k : Nat} {x : Mo} (h : ∀ m ∈ l, OkM m) (hx : OkM x) : ∀ m ∈ l.set k x, OkM m := fun m hm => by
  rcases List.mem_or_eq_of_mem_set hm with h1 | rfl
  · exact h m h1
  · exact hx
/-! ### meetings -/
theorem meet_ok {o n : Int} {q : Nat} {ms : List Mo} : OkR (meetG o n q ms) := fun p hp => by
  obtain ⟨a, _, rfl⟩ := List.mem_map.mp hp
  exact ⟨ok_iff.mpr fun x hx => (at_lat2.mp hx).1, ok_iff.mpr fun x hx => (at_lat2.mp hx).1⟩
theorem lat2_le {a b c d : Mo} (h1 : leM a c) (h2 : leM b d) : leM (latG 0 [a, b]) (latG 0 [c, d]) := le_iff.mpr fun x hx => by
  rw [at_lat2] at hx ⊢
  exact ⟨hx.1, le_iff.mp h1 x hx.2.1, le_iff.mp h2 x hx.2.2⟩
theorem meet_le' {b b' : Mo} {n n' : Int} (hb : leM b b') (hn : n ≤ n') : ∀ {as bs : List Mo}, LeL as bs → LeR (as.map fun a => (b, latG 0 [addM b n, a])) (bs.map fun a => (b', latG 0 [addM b' n', a]))
  | [], [], _ => trivial
  | _ :: _, _ :: _, ⟨h1, h2⟩ => ⟨hb, lat2_le (add_le hb hn) h1, meet_le' hb hn h2⟩
  | [], _ :: _, h => h.elim
  | _ :: _, [], h => h.elim
theorem meet_le {o o' n n' : Int} {q q' : Nat} {as bs : List Mo} (ho : o ≤ o') (hn : n ≤ n') (h1 : 1 ≤ q) (hq : q ≤ q') (ha : LeL as bs) : LeR (meetG o n q as) (meetG o' n' q' bs) :=
  meet_le' (lat2_le (le_iff.mpr fun x hx => by rw [at_some] at hx ⊢; omega) (nth_mono h1 hq ha)) hn ha
/-! ### rooms -/
def LeN : List Mo → List Mo → Prop
  | [], [] => True
  | none :: r, none :: t => LeN r t
  | some a :: r, some b :: t => a ≤ b ∧ LeN r t
  | _, _ => False
theorem LeN.refl : ∀ {r : List Mo}, LeN r r
  | [] => trivial
  | none :: r => LeN.refl (r := r)
  | some _ :: _ => ⟨Int.le_refl _, LeN.refl⟩
def LeO : Option Mo → Option Mo → Prop
  | none, none => True
  | some a, some b => leM a b
  | _, _ => False
theorem rBegin_le {t t' : Int} {p p' : Option Mo} {a b : Mo} (ht : t ≤ t') (hp : LeO p p') (h : leM a b) : leM (rBegin t p a) (rBegin t' p' b) := by
  cases p <;> cases p'
  · exact h
  · exact hp.elim
  · exact hp.elim
  · exact lat2_le h (add_le hp ht)
theorem early_le {b b' x x' : Mo} {n n' k k' : Int} (hb : leM b b') (hn : n ≤ n') (hk : k ≤ k') (hx : leM x x') : leM (earlyG b n k x) (earlyG b' n' k' x') := le_iff.mpr fun y hy => by
  unfold earlyG at hy ⊢
  rw [at_first2] at hy ⊢
  rcases hy with hy | hy
  · exact .inl (le_iff.mp (add_le hb hn) y hy)
  · exact .inr (le_iff.mp (add_le (lat2_le hb hx) hk) y hy)
theorem room_le {t t' : Int} (ht : t ≤ t') : ∀ {as bs : List Mo} {ls ms : List Int} {ns os : List Mo} {p p' : Option Mo}, LeL as bs → LeZ ls ms → LeN ns os → ls.length = as.length → ns.length = as.length → LeO p p' → LeR (roomL t p as ls ns) (roomL t' p' bs ms os)
  | [], [], _, _, _, _, _, _, _, _, _, _, _, _ => by simp [roomL, LeR]
  | a :: as, b :: bs, l :: ls, m :: ms, k :: ns, o :: os, p, p', ⟨h1, h2⟩, ⟨h3, h4⟩, h5, l1, l2, hp => by
    have hb := rBegin_le ht hp h1
    have he : leM (rEnd (rBegin t p a) l k as) (rEnd (rBegin t' p' b) m o bs) ∧ LeN ns os := by
      cases k with
      | none =>
        cases o with
        | some _ => exact h5.elim
        | none =>
          have e1 : rEnd (rBegin t p a) l none as = addM (rBegin t p a) l := by cases as <;> rfl
          have e2 : rEnd (rBegin t' p' b) m none bs = addM (rBegin t' p' b) m := by cases bs <;> rfl
          rw [e1, e2]
          exact ⟨add_le hb h3, h5⟩
      | some k =>
        cases o with
        | none => exact h5.elim
        | some o =>
          obtain ⟨hk, h5⟩ := h5
          refine ⟨?_, h5⟩
          cases as with
          | nil =>
            cases bs with
            | nil => exact add_le hb h3
            | cons _ _ => exact h2.elim
          | cons x as =>
            cases bs with
            | nil => exact h2.elim
            | cons y bs => exact early_le hb h3 hk h2.1
    exact ⟨hb, he.1, room_le ht h2 h4 he.2 (by simpa using l1) (by simpa using l2) he.1⟩
  | _ :: _, _ :: _, [], _, _, _, _, _, _, _, _, l1, _, _ => by simp at l1
  | _ :: _, _ :: _, _ :: _, [], _, _, _, _, _, h, _, _, _, _ => h.elim
  | _ :: _, _ :: _, _ :: _, _ :: _, [], _, _, _, _, _, _, _, l2, _ => by simp at l2
  | _ :: _, _ :: _, _ :: _, _ :: _, none :: _, [], _, _, _, _, h, _, _, _ => h.elim
  | _ :: _, _ :: _, _ :: _, _ :: _, some _ :: _, [], _, _, _, _, h, _, _, _ => h.elim
  | [], _ :: _, _, _, _, _, _, _, h, _, _, _, _, _ => h.elim
  | _ :: _, [], _, _, _, _, _, _, h, _, _, _, _, _ => h.elim
theorem rBegin_ok {t : Int} {p : Option Mo} {a : Mo} (h : OkM a) : OkM (rBegin t p a) := by
  cases p with
  | none => exact h
  | some e => exact ok_iff.mpr fun x hx => (at_lat2.mp hx).1
theorem rEnd_ok {b : Mo} {n : Int} {k : Mo} {as : List Mo} (hb : OkM b) (hn : 0 ≤ n) (hk : OkM k) : OkM (rEnd b n k as) := by
  cases as with
  | nil => exact add_ok hb hn
  | cons x as =>
    cases k with
    | none => exact add_ok hb hn
    | some k =>
      refine ok_iff.mpr fun y hy => ?_
      rcases at_first2.mp hy with hy | hy
      · exact ok_iff.mp (add_ok hb hn) y hy
      · have := (at_lat2.mp (at_add.mp hy)).1
        have := hk k rfl
        omega
theorem room_ok {t : Int} : ∀ {as : List Mo} {ls : List Int} {ns : List Mo} {p : Option Mo}, (∀ m ∈ as, OkM m) → (∀ i ∈ ls, 0 ≤ i) → (∀ m ∈ ns, OkM m) → OkR (roomL t p as ls ns)
  | a :: as, n :: ls, k :: ns, p, h1, h2, h3, q, hq => by
    rcases List.mem_cons.mp hq with rfl | hq
    · exact ⟨rBegin_ok (h1 a List.mem_cons_self), rEnd_ok (rBegin_ok (h1 a List.mem_cons_self)) (h2 n List.mem_cons_self) (h3 k List.mem_cons_self)⟩
    · exact room_ok (fun m hm => h1 m (List.mem_cons_of_mem _ hm)) (fun m hm => h2 m (List.mem_cons_of_mem _ hm)) (fun m hm => h3 m (List.mem_cons_of_mem _ hm)) q hq
  | [], _, _, _, _, _, _, q, hq => by simp [roomL] at hq
  | _ :: _, [], _, _, _, _, _, q, hq => by simp [roomL] at hq
  | _ :: _, _ :: _, [], _, _, _, _, q, hq => by simp [roomL] at hq
theorem setN_le : ∀ {l : List Mo} {k : Nat} {r : Int} (h : k < l.length), 0 ≤ r → LeN l (l.set k (addM l[k] r))
  | none :: l, 0, r, _, _ => LeN.refl (r := l)
  | some a :: l, 0, r, _, h => ⟨by show a ≤ a + r; omega, LeN.refl⟩
  | none :: l, k + 1, r, h, hr => setN_le (l := l) (by simpa using h) hr
  | some a :: l, k + 1, r, h, hr => ⟨Int.le_refl _, setN_le (l := l) (by simpa using h) hr⟩
end K15

namespace K15
open PySem PySem.Spec PyProof.Rows L2 DL
/-! ### first ones alone -/
theorem row_take {h : Hrs} {d : Nat} : ∀ {l : List (Mo × Int)} {k : Nat} {b : Mo} {ends : List Mo}, rowG h d b ends (l.take k) = (rowG h d b ends l).take k
  | [], k, _, _ => by simp [rowG]
  | x :: l, 0, _, _ => rfl
  | x :: l, k + 1, b, ends => by
    rw [List.take_succ_cons, rowG, rowG, List.take_succ_cons, row_take]
theorem zip_take : ∀ {as : List Mo} {ls : List Int} {k : Nat}, (as.take k).zip (ls.take k) = (as.zip ls).take k
  | [], _, k => by simp
  | a :: as, [], k => by simp
  | a :: as, l :: ls, 0 => rfl
  | a :: as, l :: ls, k + 1 => by
    show (a, l) :: (as.take k).zip (ls.take k) = (a, l) :: (as.zip ls).take k
    rw [zip_take]
theorem counter_take {as : List Mo} {ls : List Int} {d k : Nat} {h : Hrs} : counterG (as.take k) (ls.take k) d h = (counterG as ls d h).take k := by
  unfold counterG
  rw [zip_take, row_take]
theorem okDs_map {α : Type} {f : α → D} {n : Nat} (h : ∀ x, okD n (f x) = true) : ∀ l : List α, okDs n (l.map f) = true
  | [] => by simp [okDs]
  | x :: l => by
    show okDs n (f x :: l.map f) = true
    simp only [okDs, h x, okDs_map h l, Bool.and_self]
theorem okD_mD {n : Nat} {m : Mo} : okD n (mD m) = true := by cases m <;> cases n <;> simp [mD, okD]
theorem okD_pD {n : Nat} {p : Mo × Mo} : okD (n + 1) (pD p) = true := by
  show okDs n [mD p.1, mD p.2] = true
  simp only [okDs, okD_mD, Bool.and_self]
theorem eqD_self {d : D} (h : okD 60 d = true) : eqD d d = some (.bl true) := by
  unfold eqD eqvD
  rw [if_pos ⟨h, h⟩, PySem.SeqAt.eqv_refl _ (okD_lay 60 d h).1]
theorem eqD_row {r : Row} : eqD (.lst (r.map pD)) (.lst (r.map pD)) = some (.bl true) := eqD_self (by
  show okDs 59 (r.map pD) = true
  exact okDs_map (fun p => okD_pD) r)
theorem eqD_mos {r : List Mo} : eqD (.lst (r.map mD)) (.lst (r.map mD)) = some (.bl true) := eqD_self (by
  show okDs 59 (r.map mD) = true
  exact okDs_map (fun p => okD_mD) r)
/-! ### the counter's part -/
theorem v_raisedZ {s : Src} {l : List Int} {k : Nat} (hs : GoodS s) (h : k < l.length) (hl : l.length < 1000) : ∃ r s', m__law_raised [.p (srcC s), .t (.lst (l.map D.int)), .t (.int k)] = .okN (.lst ((l.set k (l[k] + (1 + r))).map D.int)) [.p (srcC s'), .t (.lst (l.map D.int)), .t (.int k)] ∧ 0 ≤ r ∧ GoodS s' := by
  have e : (l.map some).map mD = l.map D.int := by rw [List.map_map]; rfl
  obtain ⟨r, s', q, h1, h2⟩ := v_raised (l := l.map some) hs (by rw [List.length_map]; exact h) (by rw [List.length_map]; exact hl)
  rw [e] at q
  refine ⟨r, s', ?_, h1, h2⟩
  rw [q]
  have e2 : ∀ z : Mo, z = some (l[k] + (1 + r)) → ((l.map some).set k z).map mD = (l.set k (l[k] + (1 + r))).map D.int := fun z hz => by
    subst hz
    rw [← List.map_set, List.map_map]
    rfl
  rw [e2 _ (by rw [List.getElem_map]; rfl)]
theorem v_cut {x1 x2 x3 x4 x5 x6 x7 x8 x9 x10 : SV} : ∀ {l : List Sp2} {s : Src}, GoodS s → ∃ l2 s', compL (gN 11) (tB (eOp2 gtD (pE (callD 2 m__law_take [] (oCons (pV 0) (oCons (pE (eC (.int 3))) (oNil))))) (pE (eC (.int 0))))) (eVar 11) [11] (l.map spD2) [.p (srcC s), x1, x2, x3, x4, x5, x6, x7, x8, x9, x10, .no] =
    .ok (l2.map spD2) [.p (srcC s'), x1, x2, x3, x4, x5, x6, x7, x8, x9, x10, .no] ∧ GoodS s' ∧ (∀ lo, Chn lo l → Chn lo l2) ∧ (∀ p ∈ l2, p ∈ l) ∧ l2.length ≤ l.length
  | [], s, hs => ⟨[], s, rfl, hs, fun _ h => h, fun _ h => h, Nat.le_refl _⟩
  | p :: l, s, hs => by
    obtain ⟨r, s1, e, a, b, g⟩ := v_take (top := 3) hs (by decide) (by decide)
    obtain ⟨l2, s', q, g', c, m, n⟩ := v_cut (l := l) (x1 := x1) (x2 := x2) (x3 := x3) (x4 := x4) (x5 := x5) (x6 := x6) (x7 := x7) (x8 := x8) (x9 := x9) (x10 := x10) g
    have mono : ∀ {l : List Sp2} {a b : Int}, a ≤ b → Chn b l → Chn a l := fun {l} => by
      cases l with
      | nil => exact fun _ _ => trivial
      | cons p r => exact fun hab ⟨c1, c2, c3⟩ => ⟨by omega, c2, c3⟩
    by_cases k : 0 < r
    · refine ⟨p :: l2, s', ?_, g', fun lo ⟨h1, h2, h3⟩ => ⟨h1, h2, c _ h3⟩, fun z hz => ?_, by simp [n]⟩
      · exact compL_yes (ρ1 := [.p (srcC s), x1, x2, x3, x4, x5, x6, x7, x8, x9, x10, .t (spD2 p)]) (ρ2 := [.p (srcC s1), x1, x2, x3, x4, x5, x6, x7, x8, x9, x10, .t (spD2 p)]) (ρ3 := [.p (srcC s1), x1, x2, x3, x4, x5, x6, x7, x8, x9, x10, .t (spD2 p)]) (by simp) (by simp [e, k]) (by simp) (by simpa using q)
      · rcases List.mem_cons.mp hz with rfl | hz
        · exact List.mem_cons_self
        · exact List.mem_cons_of_mem _ (m z hz)
    · refine ⟨l2, s', ?_, g', fun lo ⟨h1, h2, h3⟩ => mono (by omega) (c _ h3), fun z hz => List.mem_cons_of_mem _ (m z hz), Nat.le_succ_of_le n⟩
      exact compL_not (ρ1 := [.p (srcC s), x1, x2, x3, x4, x5, x6, x7, x8, x9, x10, .t (spD2 p)]) (ρ2 := [.p (srcC s1), x1, x2, x3, x4, x5, x6, x7, x8, x9, x10, .t (spD2 p)]) (by simp) (by simp [e, k]) (by simpa using q)
end K15

namespace K15
open PySem PySem.Spec PyProof.Rows L2 DL
theorem inSp_mem {s : Sp2} {l : List Sp2} (h : s ∈ l) : inSp s l = true := by
  unfold inSp
  rw [List.any_eq_true]
  exact ⟨s, h, by simp⟩
/-- the cut hours, however they are made -/
theorem v_cutH {s : Src} {h : Hrs} {x1 x2 x4 x5 x6 x7 x8 x9 : SV} (hs : GoodS s) (g : GoodH h) : ∃ h2 s' x11, eIf (tB (eOp2 isD (pV 3) (pE (eC .non)))) (callD 1 m__law_spans [] (oCons (pV 0) (oNil))) (fz (nComp (iSeq (eVar 3)) (gN 11) (tB (eOp2 gtD (pE (callD 2 m__law_take [] (oCons (pV 0) (oCons (pE (eC (.int 3))) (oNil))))) (pE (eC (.int 0))))) (eVar 11) [11]))
    [.p (srcC s), x1, x2, .t (spansArg h), x4, x5, x6, x7, x8, x9, .no, .no] = .ok (spansArg h2) [.p (srcC s'), x1, x2, .t (spansArg h), x4, x5, x6, x7, x8, x9, .no, x11] ∧ GoodS s' ∧ GoodH h2 ∧ Within h2 h ∧
      (h = none ∨ ∃ l m, h2 = some l ∧ h = some m ∧ l.length ≤ 1000 ∧ m.length ≤ 1000 ∧ ∀ s ∈ l, inSp s m = true) := by
  cases h with
  | none =>
    obtain ⟨h2, s', e, g2, g3⟩ := v_spans hs
    rcases e with ⟨e, rfl⟩ | ⟨l, e, rfl⟩
    · exact ⟨none, s', .no, by simp [spansArg, e], g3, trivial, trivial, .inl rfl⟩
    · exact ⟨some l, s', .no, by simp [spansArg, e], g3, g2, trivial, .inl rfl⟩
  | some l =>
    obtain ⟨l2, s', q, g', c, m, n⟩ := v_cut (l := l) (x1 := x1) (x2 := x2) (x3 := .t (.lst (l.map spD2))) (x4 := x4) (x5 := x5) (x6 := x6) (x7 := x7) (x8 := x8) (x9 := x9) (x10 := .no) hs
    obtain ⟨k1, k2, k3⟩ := g
    refine ⟨some l2, s', .no, ?_, g', ⟨by omega, c _ k2, fun p hp => k3 p (m p hp)⟩, fun p hp => ⟨p, m p hp, Int.le_refl _, Int.le_refl _⟩, .inr ⟨l2, l, rfl, rfl, by omega, by omega, fun p hp => inSp_mem (m p hp)⟩⟩
    have n5 : l.length ≤ 100000 := by omega
    simp [spansArg, q, n5]
theorem v_counter_rises {s : Src} {as : List Mo} {ls : List Int} {h : Hrs} (hs : GoodS s) (ha : ∀ m ∈ as, OkM m) (hls : ∀ i ∈ ls, 0 ≤ i) (hl : ls.length = as.length) (h0 : 0 < as.length) (h64 : as.length < 64) (g : GoodH h) :
    ∃ s' o, m__law_counter_rises [.p (srcC s), .t (.lst (as.map mD)), .t (.lst (ls.map D.int)), .t (spansArg h)] = .ok (.bl true) (.p (srcC s') :: o) ∧ GoodS s' := by
  obtain ⟨r1, s1, e1, a1, b1, g1⟩ := v_take (top := 3) hs (by decide) (by decide)
  obtain ⟨r2, s2, e2, a2, b2, g2⟩ := v_take (top := (as.length : Int)) g1 (by omega) (by omega)
  obtain ⟨d, hd⟩ : ∃ d : Nat, 1 + r1 = (d : Int) := ⟨(1 + r1).toNat, by omega⟩
  obtain ⟨k, rfl⟩ : ∃ k : Nat, r2 = (k : Int) := ⟨r2.toNat, by omega⟩
  have hk : k < as.length := by omega
  have hk' : k < ls.length := by omega
  obtain ⟨o3, e3⟩ := v_init g
  have hrow : ∀ (as' : List Mo) (ls' : List Int) (d' : Nat) (h' : Hrs), (∀ m ∈ as', OkM m) → (∀ i ∈ ls', 0 ≤ i) → ls'.length = as'.length → as'.length < 64 → 1 ≤ d' → d' ≤ 3 → ∃ o, m_counter_row [.t (.lst (as'.map mD)), .t (.lst (ls'.map D.int)), .t (.int d'), .t (.ins "Hours" [("own_spans", ownD' h')])] = .okN (.lst ((counterG as' ls' d' h').map pD)) o := fun as' ls' d' h' q1 q2 q3 q4 q5 q6 => v_counter_row q1 q2 q3 q4 q5 q6
  obtain ⟨o4, e4⟩ := hrow as ls d h ha hls hl h64 (by omega) (by omega)
  obtain ⟨ra, s3, e5, a3, g3⟩ := v_raised (l := as) (k := k) g2 hk (by omega)
  have ha' := set_ok (k := k) ha (add_ok (i := 1 + ra) (ha _ (List.getElem_mem hk)) (by omega))
  obtain ⟨as', ea⟩ : ∃ as', as' = as.set k (addM as[k] (1 + ra)) := ⟨_, rfl⟩
  rw [← ea] at e5 ha'
  obtain ⟨o6, e6⟩ := hrow as' ls d h ha' hls (by rw [ea, List.length_set]; exact hl) (by rw [ea, List.length_set]; exact h64) (by omega) (by omega)
  obtain ⟨rb, s4, e7, a4, g4⟩ := v_raisedZ (l := ls) (k := k) g3 hk' (by omega)
  have hls' : ∀ i ∈ ls.set k (ls[k] + (1 + rb)), 0 ≤ i := fun i hi => by
    rcases List.mem_or_eq_of_mem_set hi with h1 | rfl
    · exact hls i h1
    · have := hls _ (List.getElem_mem hk')
      omega
  obtain ⟨ls', el⟩ : ∃ ls', ls' = ls.set k (ls[k] + (1 + rb)) := ⟨_, rfl⟩
  rw [← el] at e7 hls'
  obtain ⟨o8, e8⟩ := hrow as ls' d h ha hls' (by rw [el, List.length_set]; exact hl) h64 (by omega) (by omega)
  have R0 : OkR (counterG as ls d h) := counter_ok hls
  obtain ⟨o9, e9⟩ := v_none_earlier (counter_le (h := h) (h' := h) (d := d) (d' := d) g within_refl (Nat.le_refl _) (show LeL as as' from ea ▸ set_le (k := k) (x := addM as[k] (1 + ra)) fun y hy => by
    rw [List.getElem?_eq_getElem hk] at hy
    cases hy
    exact add_self_le (by omega)) (LeZ.refl (r := ls)) hls) R0 (counter_ok hls)
  obtain ⟨o10, e10⟩ := v_none_earlier (counter_le (h := h) (h' := h) (d := d) (d' := d) g within_refl (Nat.le_refl _) (LeL.refl (r := as)) (show LeZ ls ls' from el ▸ setZ_le (k := k) (x := ls[k] + (1 + rb)) fun y hy => by
    rw [List.getElem?_eq_getElem hk'] at hy
    cases hy
    omega) hls) R0 (counter_ok hls')
  obtain ⟨h2, s5, x11, e11, g5, gh2, w, le⟩ := v_cutH (s := s4) (h := h) (x1 := .t (.lst (as.map mD))) (x2 := .t (.lst (ls.map D.int))) (x4 := .t (.int d)) (x5 := .t (.int k)) (x6 := .t (.ins "Hours" [("own_spans", ownD' h)])) (x7 := .t (.lst ((counterG as ls d h).map pD))) (x8 := .t (.lst ((counterG as' ls d h).map pD))) (x9 := .t (.lst ((counterG as ls' d h).map pD))) g4 g
  obtain ⟨o12, e12⟩ := v_init gh2
  obtain ⟨o13, e13⟩ := v_le le
  have e13 : m_Hours___le__ [.t (.ins "Hours" [("own_spans", ownD' h2)]), .t (.ins "Hours" [("own_spans", ownD' h)])] = .ok (.bl true) o13 := e13
  obtain ⟨o14, e14⟩ := hrow as ls d h2 ha hls hl h64 (by omega) (by omega)
  obtain ⟨o15, e15⟩ := v_none_earlier (counter_le (h := h) (h' := h2) (d := d) (d' := d) g w (Nat.le_refl _) (LeL.refl (r := as)) (LeZ.refl (r := ls)) hls) R0 (counter_ok hls)
  obtain ⟨o16, e16⟩ := hrow (as.take k) (ls.take k) d h (fun m hm => ha m (List.mem_of_mem_take hm)) (fun i hi => hls i (List.mem_of_mem_take hi)) (by rw [List.length_take, List.length_take, hl]) (by rw [List.length_take]; omega) (by omega) (by omega)
  rw [counter_take, List.map_take, List.map_take, List.map_take] at e16
  have c1 : DL.cutD (as.map mD) none (some (k : Int)) = (as.map mD).take k := cut_to (by rw [List.length_map]; omega)
  have c2 : DL.cutD (ls.map D.int) none (some (k : Int)) = (ls.map D.int).take k := cut_to (by rw [List.length_map]; omega)
  have hrl : ∀ {l : List (Mo × Int)} {b : Mo} {ends : List Mo}, (rowG h d b ends l).length = l.length := fun {l} => by
    induction l with
    | nil => intro b ends; rfl
    | cons x l ih => intro b ends; rw [rowG, List.length_cons, List.length_cons, ih]
  have c3 : DL.cutD ((counterG as ls d h).map pD) none (some (k : Int)) = ((counterG as ls d h).map pD).take k := cut_to (by
    rw [List.length_map]
    unfold counterG
    rw [hrl, List.length_zip]
    omega)
  have q1 : eqD (.lst (((counterG as ls d h).map pD).take k)) (.lst (((counterG as ls d h).map pD).take k)) = some (.bl true) := by
    rw [← List.map_take]
    exact eqD_row
  have main : ∀ w : RS, True := fun _ => trivial
  by_cases c : 1 < d
  · have c' : (1 : Int) < d := by omega
    obtain ⟨d', hd'⟩ : ∃ d' : Nat, (d : Int) - 1 = (d' : Int) := ⟨d - 1, by omega⟩
    obtain ⟨o17, e17⟩ := hrow as ls d' h ha hls hl h64 (by omega) (by omega)
    obtain ⟨o18, e18⟩ := v_none_earlier (counter_le (h := h) (h' := h) (d := d) (d' := d') g within_refl (by omega) (LeL.refl (r := as)) (LeZ.refl (r := ls)) hls) R0 (counter_ok hls)
    refine ⟨s5, ?_⟩
    simp [m__law_counter_rises, -eIf_ev, e1, e2, hd, e3, e4, e5, e6, e7, e8, e9, e10, c', hd', e17, e18, e11, e12, e13, e14, e15, e16, c1, c2, c3, q1, g5]
  · have c' : ¬ (1 : Int) < d := by omega
    refine ⟨s5, ?_⟩
    simp [m__law_counter_rises, -eIf_ev, e1, e2, hd, e3, e4, e5, e6, e7, e8, e9, e10, c', e11, e12, e13, e14, e15, e16, c1, c2, c3, q1, g5]
end K15

namespace K15
open PySem PySem.Spec PyProof.Rows L2 DL
theorem v_meeting_rises {s : Src} {as : List Mo} (hs : GoodS s) (ha : ∀ m ∈ as, OkM m) (h0 : 0 < as.length) (h64 : as.length < 64) :
    ∃ s' o, m__law_meeting_rises [.p (srcC s), .t (.lst (as.map mD))] = .ok (.bl true) (.p (srcC s') :: o) ∧ GoodS s' := by
  obtain ⟨op, s1, e1, a1, b1, g1⟩ := v_take (top := 12) hs (by decide) (by decide)
  obtain ⟨ln, s2, e2, a2, b2, g2⟩ := v_take (top := 9) g1 (by decide) (by decide)
  obtain ⟨r2, s3, e3, a3, b3, g3⟩ := v_take (top := (as.length : Int)) g2 (by omega) (by omega)
  obtain ⟨r4, s4, e4, a4, b4, g4⟩ := v_take (top := (as.length : Int)) g3 (by omega) (by omega)
  obtain ⟨q, hq⟩ : ∃ q : Nat, 1 + r4 = (q : Int) := ⟨(1 + r4).toNat, by omega⟩
  obtain ⟨k, rfl⟩ : ∃ k : Nat, r2 = (k : Int) := ⟨r2.toNat, by omega⟩
  have hk : k < as.length := by omega
  obtain ⟨o5, e5⟩ := v_meeting_row (o := op) (n := ln) (q := q) (ms := as) a1 a2 ha (by omega) (by omega) h64
  obtain ⟨ra, s5, e6, a6, g5⟩ := v_raised (l := as) (k := k) g4 hk (by omega)
  have ha' := set_ok (k := k) ha (add_ok (i := 1 + ra) (ha _ (List.getElem_mem hk)) (by omega))
  obtain ⟨as', ea⟩ : ∃ as', as' = as.set k (addM as[k] (1 + ra)) := ⟨_, rfl⟩
  rw [← ea] at e6 ha'
  have hl' : as'.length = as.length := by rw [ea, List.length_set]
  obtain ⟨o7, e7⟩ := v_meeting_row (o := op) (n := ln) (q := q) (ms := as') a1 a2 ha' (by omega) (by omega) (by omega)
  obtain ⟨o8, e8⟩ := v_none_earlier (meet_le (q := q) (q' := q) (Int.le_refl op) (Int.le_refl ln) (by omega) (Nat.le_refl _) (show LeL as as' from ea ▸ set_le (k := k) (x := addM as[k] (1 + ra)) fun y hy => by
    rw [List.getElem?_eq_getElem hk] at hy
    cases hy
    exact add_self_le (by omega))) meet_ok meet_ok
  obtain ⟨o9, e9⟩ := v_meeting_row (o := op + 3) (n := ln) (q := q) (ms := as) (by omega) a2 ha (by omega) (by omega) h64
  obtain ⟨o10, e10⟩ := v_none_earlier (meet_le (q := q) (q' := q) (by omega : op ≤ op + 3) (Int.le_refl ln) (by omega) (Nat.le_refl _) (LeL.refl (r := as))) meet_ok meet_ok
  obtain ⟨o11, e11⟩ := v_meeting_row (o := op) (n := ln + 3) (q := q) (ms := as) a1 (by omega) ha (by omega) (by omega) h64
  obtain ⟨o12, e12⟩ := v_none_earlier (meet_le (q := q) (q' := q) (Int.le_refl op) (by omega : ln ≤ ln + 3) (by omega) (Nat.le_refl _) (LeL.refl (r := as))) meet_ok meet_ok
  by_cases c : q = as.length
  · have c' : (q : Int) = (as.length : Int) := by omega
    refine ⟨s5, ?_⟩
    simp [m__law_meeting_rises, e1, e2, e3, e4, hq, e5, e6, e7, e8, e9, e10, e11, e12, c', g5]
    simp [c] at *
    simp [m__law_meeting_rises, e1, e2, e3, e4, hq, e5, e6, e7, e8, e9, e10, e11, e12, c', g5]
  · have c' : ¬ (q : Int) = (as.length : Int) := by omega
    obtain ⟨q', hq'⟩ : ∃ q' : Nat, (q : Int) + 1 = (q' : Int) := ⟨q + 1, by omega⟩
    obtain ⟨o13, e13⟩ := v_meeting_row (o := op) (n := ln) (q := q') (ms := as) a1 a2 ha (by omega) (by omega) h64
    obtain ⟨o14, e14⟩ := v_none_earlier (meet_le (q := q) (q' := q') (Int.le_refl op) (Int.le_refl ln) (by omega) (by omega) (LeL.refl (r := as))) meet_ok meet_ok
    refine ⟨s5, ?_⟩
    simp [m__law_meeting_rises, e1, e2, e3, e4, hq, e5, e6, e7, e8, e9, e10, e11, e12, c', hq', e13, e14, g5]
/-! ### the room's part -/
theorem rEnd_take {b : Mo} {n : Int} {k : Mo} {l : List Mo} {j : Nat} : rEnd b n k (l.take (j + 1)) = rEnd b n k l := by cases l <;> rfl
theorem room_take {t : Int} : ∀ (j : Nat) (as : List Mo) (ls : List Int) (ns : List Mo) (p : Option Mo), ls.length = as.length → ns.length = as.length →
    (roomL t p (as.take j) (ls.take j) (ns.take j)).map Prod.fst = ((roomL t p as ls ns).take j).map Prod.fst ∧ (roomL t p (as.take j) (ls.take j) (ns.take j)).take (j - 1) = (roomL t p as ls ns).take (j - 1)
  | 0, as, ls, ns, p, _, _ => by simp [roomL]
  | j + 1, [], ls, ns, p, _, _ => by simp [roomL]
  | j + 1, a :: as, [], ns, p, h, _ => by simp at h
  | j + 1, a :: as, l :: ls, [], p, _, h => by simp at h
  | 0 + 1, a :: as, l :: ls, k :: ns, p, h1, h2 => by simp [roomL]
  | (j + 1) + 1, a :: as, l :: ls, k :: ns, p, h1, h2 => by
    obtain ⟨i1, i2⟩ := room_take (t := t) (j + 1) as ls ns (some (rEnd (rBegin t p a) l k as)) (by simpa using h1) (by simpa using h2)
    rw [List.take_succ_cons, List.take_succ_cons, List.take_succ_cons, roomL, roomL, rEnd_take]
    refine ⟨?_, ?_⟩
    · rw [List.map_cons, List.take_succ_cons, List.map_cons, i1]
    · show ((_, _) :: roomL t _ _ _ _).take (j + 1) = ((_, _) :: roomL t _ as ls ns).take (j + 1)
      rw [List.take_succ_cons, List.take_succ_cons]
      congr 1
theorem room_len {t : Int} : ∀ {as : List Mo} {ls : List Int} {ns : List Mo} {p : Option Mo}, ls.length = as.length → ns.length = as.length → (roomL t p as ls ns).length = as.length
  | [], _, _, _, _, _ => by simp [roomL]
  | a :: as, l :: ls, k :: ns, p, h1, h2 => by
    rw [roomL, List.length_cons, List.length_cons, room_len (by simpa using h1) (by simpa using h2)]
  | _ :: _, [], _, _, h, _ => by simp at h
  | _ :: _, _ :: _, [], _, _, h => by simp at h
theorem cut_neg {l : List D} : DL.cutD l none (some (-1)) = l.take (l.length - 1) := by
  unfold DL.cutD
  have e : HT.sIx l.length l.length (some (-1)) = l.length - 1 := by
    show (if (-1 : Int) < 0 then ((-1 : Int) + (l.length : Int)).toNat else min (-1 : Int).toNat l.length) = _
    rw [if_pos (by decide)]
    omega
  rw [e]
  show (l.drop 0).take (l.length - 1 - 0) = _
  rw [List.drop_zero, Nat.sub_zero]
theorem mem4 {x : D} (h : x ∈ [D.non, .int 0, .int 1, .int 5]) : ∃ m, x = mD m ∧ OkM m := by
  simp at h
  rcases h with rfl | rfl | rfl | rfl
  · exact ⟨none, rfl, fun i h => by cases h⟩
  · exact ⟨some 0, rfl, fun i h => by cases h; decide⟩
  · exact ⟨some 1, rfl, fun i h => by cases h; decide⟩
  · exact ⟨some 5, rfl, fun i h => by cases h; decide⟩
theorem v_notices {x1 x2 x3 x4 x5 x6 x7 x8 x9 : SV} : ∀ {l : List D} {s : Src}, GoodS s → ∃ (ns : List Mo) (s' : Src), compL (gN 10) tYesB (callD 2 m__law_one [] (oCons (pV 0) (oCons (pE (fz (nLst (aCons (eC .non) (aCons (eC (.int 0)) (aCons (eC (.int 1)) (aCons (eC (.int 5)) (aNil)))))))) (oNil)))) [10] l [.p (srcC s), x1, x2, x3, x4, x5, x6, x7, x8, x9, .no] =
    .ok (ns.map mD) [.p (srcC s'), x1, x2, x3, x4, x5, x6, x7, x8, x9, .no] ∧ GoodS s' ∧ ns.length = l.length ∧ ∀ m ∈ ns, OkM m
  | [], s, hs => ⟨[], s, rfl, hs, rfl, fun m h => by cases h⟩
  | d :: l, s, hs => by
    obtain ⟨v, s1, e, mm, g⟩ := v_one (l := [D.non, .int 0, .int 1, .int 5]) hs (by simp) (by simp)
    obtain ⟨m, rfl, hm⟩ := mem4 mm
    obtain ⟨ns, s', q, g', n, o⟩ := v_notices (l := l) (x1 := x1) (x2 := x2) (x3 := x3) (x4 := x4) (x5 := x5) (x6 := x6) (x7 := x7) (x8 := x8) (x9 := x9) g
    refine ⟨m :: ns, s', ?_, g', by simp [n], fun z hz => ?_⟩
    · exact compL_yes (ρ1 := [.p (srcC s), x1, x2, x3, x4, x5, x6, x7, x8, x9, .t d]) (ρ2 := [.p (srcC s), x1, x2, x3, x4, x5, x6, x7, x8, x9, .t d]) (ρ3 := [.p (srcC s1), x1, x2, x3, x4, x5, x6, x7, x8, x9, .t d]) (by simp) (by simp) (by simp [e]) (by simpa using q)
    · rcases List.mem_cons.mp hz with rfl | hz
      · exact hm
      · exact o z hz
end K15

namespace K15
open PySem PySem.Spec PyProof.Rows L2 DL
theorem rows_loop {R : Row} {x0 x1 x2 x3 x4 x5 x7 x9 x10 : SV} {body : EnvD → RS} (hb : body = sIf (wNot (tTr (pE (callD 2 m__law_none_earlier [] (oCons (pE (eVar 6)) (oCons (pE (eVar 8)) (oNil)))))))
   (sRet (eC (.bl false)))
   (sNx)) : ∀ (rows : List D) (x8 : SV), (x8 = .no ∨ ∃ d, x8 = .t d) → (∀ d ∈ rows, ∃ o, m__law_none_earlier [.t (.lst (R.map pD)), .t d] = .ok (.bl true) o) →
    ∃ x8', (x8' = .no ∨ ∃ d, x8' = .t d) ∧ forL (gN 8) body rows [x0, x1, x2, x3, x4, x5, .t (.lst (R.map pD)), x7, x8, x9, x10] = .nx [x0, x1, x2, x3, x4, x5, .t (.lst (R.map pD)), x7, x8', x9, x10]
  | [], x8, h, _ => ⟨x8, h, rfl⟩
  | d :: rows, x8, h, k => by
    obtain ⟨o, e⟩ := k d List.mem_cons_self
    rw [forL_cons (ρ' := [x0, x1, x2, x3, x4, x5, .t (.lst (R.map pD)), x7, .t d, x9, x10]) (by rcases h with rfl | ⟨q, rfl⟩ <;> simp)]
    have hb' : body [x0, x1, x2, x3, x4, x5, .t (.lst (R.map pD)), x7, .t d, x9, x10] = .nx [x0, x1, x2, x3, x4, x5, .t (.lst (R.map pD)), x7, .t d, x9, x10] := by
      subst hb
      simp [e]
    rw [hb', forK_nx]
    exact rows_loop hb rows _ (.inr ⟨_, rfl⟩) fun z hz => k z (List.mem_cons_of_mem _ hz)
theorem comp0 {x0 x1 x2 x3 x4 x5 x6 x7 x8 x9 : SV} {r : Row} : compL (gN 10) tYesB (eOp2 ixD (pV 10) (pE (eC (.int 0)))) [10] (r.map pD) [x0, x1, x2, x3, x4, x5, x6, x7, x8, x9, .no] = .ok (r.map fun p => mD p.1) [x0, x1, x2, x3, x4, x5, x6, x7, x8, x9, .no] :=
  comp_map fun p _ => ⟨[x0, x1, x2, x3, x4, x5, x6, x7, x8, x9, .t (pD p)], by simp, by simp [pD, atI0], by simp⟩
theorem v_room_rises {s : Src} {as : List Mo} {ls : List Int} (hs : GoodS s) (ha : ∀ m ∈ as, OkM m) (hls : ∀ i ∈ ls, 0 ≤ i) (hl : ls.length = as.length) (h0 : 0 < as.length) (h64 : as.length < 64) :
    ∃ s' o, m__law_room_rises [.p (srcC s), .t (.lst (as.map mD)), .t (.lst (ls.map D.int))] = .ok (.bl true) (.p (srcC s') :: o) ∧ GoodS s' := by
  obtain ⟨ns, s1, e1, g1, hn, hns⟩ := v_notices (l := as.map mD) (x1 := .t (.lst (as.map mD))) (x2 := .t (.lst (ls.map D.int))) (x3 := .no) (x4 := .no) (x5 := .no) (x6 := .no) (x7 := .no) (x8 := .no) (x9 := .no) hs
  rw [List.length_map] at hn
  obtain ⟨t, s2, e2, a2, b2, g2⟩ := v_take (top := 4) g1 (by decide) (by decide)
  obtain ⟨r2, s3, e3, a3, b3, g3⟩ := v_take (top := (as.length : Int)) g2 (by omega) (by omega)
  obtain ⟨k, rfl⟩ : ∃ k : Nat, r2 = (k : Int) := ⟨r2.toNat, by omega⟩
  have hk : k < as.length := by omega
  have hk' : k < ls.length := by omega
  have hkn : k < ns.length := by omega
  obtain ⟨o4, e4⟩ := v_room_row (as := as) (ls := ls) (t := t) (ns := ns) ha hls a2 hns hl hn h64
  obtain ⟨ra, s4, e5, a5, g4⟩ := v_raised (l := as) (k := k) g3 hk (by omega)
  have ha' := set_ok (k := k) ha (add_ok (i := 1 + ra) (ha _ (List.getElem_mem hk)) (by omega))
  obtain ⟨as', ea⟩ : ∃ as', as' = as.set k (addM as[k] (1 + ra)) := ⟨_, rfl⟩
  rw [← ea] at e5 ha'
  have hal : as'.length = as.length := by rw [ea, List.length_set]
  obtain ⟨o6, e6⟩ := v_room_row (as := as') (ls := ls) (t := t) (ns := ns) ha' hls a2 hns (by omega) (by omega) (by omega)
  obtain ⟨rb, s5, e7, a7, g5⟩ := v_raisedZ (l := ls) (k := k) g4 hk' (by omega)
  have hls' : ∀ i ∈ ls.set k (ls[k] + (1 + rb)), 0 ≤ i := fun i hi => by
    rcases List.mem_or_eq_of_mem_set hi with h1 | rfl
    · exact hls i h1
    · have := hls _ (List.getElem_mem hk')
      omega
  obtain ⟨ls', el⟩ : ∃ ls', ls' = ls.set k (ls[k] + (1 + rb)) := ⟨_, rfl⟩
  rw [← el] at e7 hls'
  have hll : ls'.length = ls.length := by rw [el, List.length_set]
  obtain ⟨o8, e8⟩ := v_room_row (as := as) (ls := ls') (t := t) (ns := ns) ha hls' a2 hns (by omega) hn h64
  obtain ⟨o9, e9⟩ := v_room_row (as := as) (ls := ls) (t := t + 2) (ns := ns) ha hls (by omega) hns hl hn h64
  obtain ⟨rc, s6, e10, a10, g6⟩ := v_raised (l := ns) (k := k) g5 hkn (by omega)
  have hns' := set_ok (k := k) hns (add_ok (i := 1 + rc) (hns _ (List.getElem_mem hkn)) (by omega))
  obtain ⟨ns', en⟩ : ∃ ns', ns' = ns.set k (addM ns[k] (1 + rc)) := ⟨_, rfl⟩
  rw [← en] at e10 hns'
  have hnl : ns'.length = ns.length := by rw [en, List.length_set]
  obtain ⟨o11, e11⟩ := v_room_row (as := as) (ls := ls) (t := t) (ns := ns') ha hls a2 hns' hl (by omega) h64
  have R0 : OkR (roomG as ls t ns) := room_ok ha hls hns
  obtain ⟨u1, f1⟩ := v_none_earlier (room_le (p := none) (p' := none) (Int.le_refl t) (show LeL as as' from ea ▸ set_le (k := k) (x := addM as[k] (1 + ra)) fun y hy => by
    rw [List.getElem?_eq_getElem hk] at hy
    cases hy
    exact add_self_le (by omega)) (LeZ.refl (r := ls)) (LeN.refl (r := ns)) hl hn trivial) R0 (room_ok ha' hls hns)
  obtain ⟨u2, f2⟩ := v_none_earlier (room_le (p := none) (p' := none) (Int.le_refl t) (LeL.refl (r := as)) (show LeZ ls ls' from el ▸ setZ_le (k := k) (x := ls[k] + (1 + rb)) fun y hy => by
    rw [List.getElem?_eq_getElem hk'] at hy
    cases hy
    omega) (LeN.refl (r := ns)) hl hn trivial) R0 (room_ok ha hls' hns)
  obtain ⟨u3, f3⟩ := v_none_earlier (room_le (p := none) (p' := none) (by omega : t ≤ t + 2) (LeL.refl (r := as)) (LeZ.refl (r := ls)) (LeN.refl (r := ns)) hl hn trivial) R0 (room_ok ha hls hns)
  obtain ⟨u4, f4⟩ := v_none_earlier (room_le (p := none) (p' := none) (Int.le_refl t) (LeL.refl (r := as)) (LeZ.refl (r := ls)) (show LeN ns ns' from en ▸ setN_le hkn (by omega)) hl hn trivial) R0 (room_ok ha hls hns')
  obtain ⟨o12, e12⟩ := v_room_row (as := as.take k) (ls := ls.take k) (t := t) (ns := ns.take k) (fun m hm => ha m (List.mem_of_mem_take hm)) (fun i hi => hls i (List.mem_of_mem_take hi)) a2 (fun m hm => hns m (List.mem_of_mem_take hm)) (by simp [hl]) (by simp [hn]) (by rw [List.length_take]; omega)
  obtain ⟨i1, i2⟩ := room_take (t := t) k as ls ns none hl hn
  obtain ⟨R, hR⟩ : ∃ R, R = roomG as ls t ns := ⟨_, rfl⟩
  obtain ⟨T, hT⟩ : ∃ T, T = roomG (as.take k) (ls.take k) t (ns.take k) := ⟨_, rfl⟩
  have lT : T.length = k := by
    rw [hT]
    unfold roomG
    rw [room_len (by simp [hl]) (by simp [hn]), List.length_take]
    omega
  have lR : R.length = as.length := by
    rw [hR]
    exact room_len hl hn
  have j1 : T.map Prod.fst = (R.take k).map Prod.fst := by rw [hT, hR]; exact i1
  have j2 : T.take (k - 1) = R.take (k - 1) := by rw [hT, hR]; exact i2
  unfold roomG at hR hT e4 e6 e8 e9 e11 e12
  rw [← hR] at e4 f1 f2 f3 f4
  rw [← hT, List.map_take, List.map_take, List.map_take] at e12
  have c1 : DL.cutD (as.map mD) none (some (k : Int)) = (as.map mD).take k := cut_to (by rw [List.length_map]; omega)
  have c2 : DL.cutD (ls.map D.int) none (some (k : Int)) = (ls.map D.int).take k := cut_to (by rw [List.length_map]; omega)
  have c3 : DL.cutD (ns.map mD) none (some (k : Int)) = (ns.map mD).take k := cut_to (by rw [List.length_map]; omega)
  have c4 : DL.cutD (R.map pD) none (some (k : Int)) = (R.take k).map pD := by rw [cut_to (by rw [List.length_map]; omega), List.map_take]
  have c5 : DL.cutD (T.map pD) none (some (-1)) = (R.take (k - 1)).map pD := by rw [cut_neg, List.length_map, lT, ← List.map_take, j2]
  obtain ⟨RK, hRK⟩ : ∃ RK, RK = R.take k := ⟨_, rfl⟩
  obtain ⟨RP, hRP⟩ : ∃ RP, RP = R.take (k - 1) := ⟨_, rfl⟩
  rw [← hRK] at c4 j1
  rw [← hRP] at c5
  have c6 : DL.cutD (R.map pD) none (some (if 1 < (k : Int) then (k : Int) - 1 else 0)) = RP.map pD := by
    have e : (if 1 < (k : Int) then (k : Int) - 1 else 0) = ((k - 1 : Nat) : Int) := by split <;> omega
    rw [e, cut_to (by rw [List.length_map]; omega), hRP, List.map_take]
  have hTm : (T.map fun p => mD p.1) = (RK.map fun p => mD p.1) := by
    have h := congrArg (List.map mD) j1
    rw [List.map_map, List.map_map] at h
    exact h
  have q1 : eqD (.lst (RK.map fun p => mD p.1)) (.lst (RK.map fun p => mD p.1)) = some (.bl true) := by
    have := eqD_mos (r := RK.map Prod.fst)
    rw [List.map_map] at this
    exact this
  have q2 := eqD_row (r := RP)
  obtain ⟨x8, hx8, loop⟩ := rows_loop (R := R) (x0 := .p (srcC s6)) (x1 := .t (.lst (as.map mD))) (x2 := .t (.lst (ls.map D.int))) (x3 := .t (.lst (ns.map mD))) (x4 := .t (.int t)) (x5 := .t (.int k)) (x7 := .t (.lst [.lst ((roomL t none as' ls ns).map pD), .lst ((roomL t none as ls' ns).map pD), .lst ((roomL (t + 2) none as ls ns).map pD), .lst ((roomL t none as ls ns').map pD)])) (x9 := .no) (x10 := .no) rfl
    [.lst ((roomL t none as' ls ns).map pD), .lst ((roomL t none as ls' ns).map pD), .lst ((roomL (t + 2) none as ls ns).map pD), .lst ((roomL t none as ls ns').map pD)] .no (.inl rfl) (by
      intro d hd
      simp only [List.mem_cons, List.not_mem_nil, or_false] at hd
      rcases hd with rfl | rfl | rfl | rfl
      · exact ⟨_, f1⟩
      · exact ⟨_, f2⟩
      · exact ⟨_, f3⟩
      · exact ⟨_, f4⟩)
  have n6 : as.length ≤ 100000 := by omega
  have n7 : T.length ≤ 100000 := by omega
  have n8 : RK.length ≤ 100000 := by rw [hRK, List.length_take]; omega
  refine ⟨s6, ?_⟩
  simp [m__law_room_rises, e1, n6, e2, e3, e4, e5, e6, e7, e8, e9, e10, e11, loop, c1, c2, c3, e12, comp0, n7, n8, hTm, c4, c5, c6, q1, q2, g6]
end K15

namespace K15
open PySem PySem.Spec PyProof.Rows L2 DL
theorem rgD_of {n : Nat} (h : n ≤ 1000) : rg1D (.int n) = some (.lst (rngD 0 n)) := by
  show rgD 0 n = _
  unfold rgD
  rw [if_pos ⟨by decide, sm_of h, by omega⟩]
theorem v_rounds {l : List D} : ∃ (c : Nat) (o : List SV), c ≤ 4 ∧ m__law_rounds [.t (.seq l)] = .okN (.lst (rngD 0 c)) o := by
  by_cases c4 : 4 < (l.length : Int)
  · obtain ⟨o, h⟩ : ∃ o, m__law_rounds [.t (.seq l)] = .okN (.lst (rngD 0 4)) o := by
      have e : rg1D (.int 4) = some (.lst (rngD 0 4)) := rgD_of (n := 4) (by decide)
      simp [m__law_rounds, c4, e]
    exact ⟨4, o, by decide, h⟩
  · by_cases c1 : 1 < (l.length : Int)
    · obtain ⟨o, h⟩ : ∃ o, m__law_rounds [.t (.seq l)] = .okN (.lst (rngD 0 l.length)) o := by
        have e := rgD_of (n := l.length) (by omega)
        simp [m__law_rounds, c4, c1, e]
      exact ⟨l.length, o, by omega, h⟩
    · obtain ⟨o, h⟩ : ∃ o, m__law_rounds [.t (.seq l)] = .okN (.lst (rngD 0 1)) o := by
        have e : rg1D (.int 1) = some (.lst (rngD 0 1)) := rgD_of (n := 1) (by decide)
        simp [m__law_rounds, c4, c1, e]
      exact ⟨1, o, by decide, h⟩
theorem pow18 : powD (.int 10) (.int 18) = some (.int 1000000000000000000) := by
  show (if (decide ((0 : Int) ≤ 18) && decide ((18 : Int) ≤ 1000000) && decide ((10 : Int).natAbs < 2 ^ 64)) = true then some (D.int (10 ^ (18 : Int).toNat)) else none) = _
  rw [if_pos (by decide)]
  rfl
theorem v_pool {ns : List Int} {k : Int} (hk : k = 0 ∨ k = 1 ∨ k = 2 ∨ k = 3) : ∃ (s : Src) (o : List SV), m__law_pool [.t (.seq (ns.map D.int)), .t (.int k)] = .okN (srcC s) o ∧ GoodS s := by
  have t1 : small64I 7919 = true := by decide
  have t2 : small64I 31 = true := by decide
  have t3 : small64I 48271 = true := by decide
  have t4 : small64I k = true := by rcases hk with rfl | rfl | rfl | rfl <;> decide
  have t5 : small64I 1 = true := by decide
  have t6 : small64I 0 = true := by decide
  have hr : ∀ z : Int, 0 ≤ z % 2147483647 ∧ z % 2147483647 < 2147483647 := fun z => ⟨Int.emod_nonneg _ (by decide), Int.emod_lt_of_pos _ (by decide)⟩
  have big : ∀ v : Int, ∃ bg : Int, maxD [.int v, .int (-1 - v)] = some (.int bg) := fun v => ⟨_, rfl⟩
  by_cases c : k < (ns.length : Int)
  · obtain ⟨v, hv⟩ : ∃ v, atI (ns.map D.int) k = some (.int v) := by
      have hk0 : 0 ≤ k := by omega
      obtain ⟨j, rfl⟩ : ∃ j : Nat, k = (j : Int) := ⟨k.toNat, by omega⟩
      have hj : j < ns.length := by omega
      exact ⟨ns[j], atI_map (f := D.int) (List.getElem?_eq_getElem hj)⟩
    obtain ⟨bg, hbg⟩ := big v
    by_cases q : 1000000000000000000 ≤ bg
    · refine ⟨(bg, (bg % 2147483629 + 7919 * k * k + 31 * k + 17) * 48271 % 2147483647), ?_⟩
      simp [-maxD_int, m__law_pool, c, hv, hbg, q, pow18, t1, t2, t3, t4, t5, srcC, GoodS, hr]
    · refine ⟨(0, (bg % 2147483629 + 7919 * k * k + 31 * k + 17) * 48271 % 2147483647), ?_⟩
      simp [-maxD_int, m__law_pool, c, hv, hbg, q, pow18, t1, t2, t3, t4, t6, srcC, GoodS, hr]
  · obtain ⟨bg, hbg⟩ := big 0
    have hbg : maxD [.int 0, .int (-1)] = some (.int bg) := hbg
    by_cases q : 1000000000000000000 ≤ bg
    · refine ⟨(bg, (bg % 2147483629 + 7919 * k * k + 31 * k + 17) * 48271 % 2147483647), ?_⟩
      simp [-maxD_int, m__law_pool, c, hbg, q, pow18, t1, t2, t3, t4, t5, srcC, GoodS, hr]
    · refine ⟨(0, (bg % 2147483629 + 7919 * k * k + 31 * k + 17) * 48271 % 2147483647), ?_⟩
      simp [-maxD_int, m__law_pool, c, hbg, q, pow18, t1, t2, t3, t4, t6, srcC, GoodS, hr]
theorem mem2 {x : D} (h : x ∈ [D.int 4, .int 20]) : ∃ i : Int, x = .int i ∧ 0 < i ∧ i < 1000000 := by
  simp at h
  rcases h with rfl | rfl <;> exact ⟨_, rfl, by decide, by decide⟩
theorem memL {x : D} (h : x ∈ [D.int 0, .int 1, .int 3, .int 8]) : ∃ i : Int, x = .int i ∧ 0 ≤ i := by
  simp at h
  rcases h with rfl | rfl | rfl | rfl <;> exact ⟨_, rfl, by decide⟩
theorem v_arrivals {x0 x1 x3 x4 x6 : SV} : ∀ {l : List D} {s : Src}, GoodS s → ∃ (ms : List Mo) (s' : Src), compL (gN 5) tYesB (callD 2 m__law_moment [] (oCons (pV 2) (oCons (pE (callD 2 m__law_one [] (oCons (pV 2) (oCons (pE (fz (nLst (aCons (eC (.int 4)) (aCons (eC (.int 20)) (aNil)))))) (oNil))))) (oNil)))) [5] l [x0, x1, .c (srcC s), x3, x4, .no, x6] =
    .ok (ms.map mD) [x0, x1, .c (srcC s'), x3, x4, .no, x6] ∧ GoodS s' ∧ ms.length = l.length ∧ ∀ m ∈ ms, OkM m
  | [], s, hs => ⟨[], s, rfl, hs, rfl, fun m h => by cases h⟩
  | d :: l, s, hs => by
    obtain ⟨v, s1, e, mm, g⟩ := v_one (l := [D.int 4, .int 20]) hs (by simp) (by simp)
    obtain ⟨i, rfl, i1, i2⟩ := mem2 mm
    obtain ⟨m, s2, e2, hm, g2⟩ := v_moment g i1 i2
    obtain ⟨ms, s', q, g', n, o⟩ := v_arrivals (l := l) (x0 := x0) (x1 := x1) (x3 := x3) (x4 := x4) (x6 := x6) g2
    refine ⟨m :: ms, s', ?_, g', by simp [n], fun z hz => ?_⟩
    · exact compL_yes (ρ1 := [x0, x1, .c (srcC s), x3, x4, .t d, x6]) (ρ2 := [x0, x1, .c (srcC s), x3, x4, .t d, x6]) (ρ3 := [x0, x1, .c (srcC s2), x3, x4, .t d, x6]) (by simp) (by simp) (by simp [e, e2]) (by simpa using q)
    · rcases List.mem_cons.mp hz with rfl | hz
      · exact hm
      · exact o z hz
theorem v_lengths {x0 x1 x3 x4 x5 : SV} : ∀ {l : List D} {s : Src}, GoodS s → ∃ (ls : List Int) (s' : Src), compL (gN 6) tYesB (callD 2 m__law_one [] (oCons (pV 2) (oCons (pE (fz (nLst (aCons (eC (.int 0)) (aCons (eC (.int 1)) (aCons (eC (.int 3)) (aCons (eC (.int 8)) (aNil)))))))) (oNil)))) [6] l [x0, x1, .c (srcC s), x3, x4, x5, .no] =
    .ok (ls.map D.int) [x0, x1, .c (srcC s'), x3, x4, x5, .no] ∧ GoodS s' ∧ ls.length = l.length ∧ ∀ m ∈ ls, 0 ≤ m
  | [], s, hs => ⟨[], s, rfl, hs, rfl, fun m h => by cases h⟩
  | d :: l, s, hs => by
    obtain ⟨v, s1, e, mm, g⟩ := v_one (l := [D.int 0, .int 1, .int 3, .int 8]) hs (by simp) (by simp)
    obtain ⟨i, rfl, i1⟩ := memL mm
    obtain ⟨ms, s', q, g', n, o⟩ := v_lengths (l := l) (x0 := x0) (x1 := x1) (x3 := x3) (x4 := x4) (x5 := x5) g
    refine ⟨i :: ms, s', ?_, g', by simp [n], fun z hz => ?_⟩
    · exact compL_yes (ρ1 := [x0, x1, .c (srcC s), x3, x4, x5, .t d]) (ρ2 := [x0, x1, .c (srcC s), x3, x4, x5, .t d]) (ρ3 := [x0, x1, .c (srcC s1), x3, x4, x5, .t d]) (by simp) (by simp) (by simp [e]) (by simpa using q)
    · rcases List.mem_cons.mp hz with rfl | hz
      · exact i1
      · exact o z hz
end K15

namespace K15
open PySem PySem.Spec PyProof.Rows L2 DL
theorem isPO_no' {x : SV} (h : isPO (some x) = false) : isPO (some x) = false := h
theorem law_loop {ns : List Int} {body : EnvD → RS} (hb : body = (sSeq (sSetN 2 (callN 2 m__law_pool [] (oCons (pE (eVar 0)) (oCons (pE (eVar 1)) (oNil)))))
  (sSeq (sSetN 3 (nComp (iRange1 (pE (eOp2 plusD (pE (eC (.int 1))) (pE (callD 2 m__law_take [] (oCons (pV 2) (oCons (pE (eC (.int 6))) (oNil)))))))) (gN 5) (tYesB) (callD 2 m__law_moment [] (oCons (pV 2) (oCons (pE (callD 2 m__law_one [] (oCons (pV 2) (oCons (pE (fz (nLst (aCons (eC (.int 4)) (aCons (eC (.int 20)) (aNil)))))) (oNil))))) (oNil)))) [5]))
  (sSeq (sSetN 4 (nComp (iSeq (eVar 3)) (gN 6) (tYesB) (callD 2 m__law_one [] (oCons (pV 2) (oCons (pE (fz (nLst (aCons (eC (.int 0)) (aCons (eC (.int 1)) (aCons (eC (.int 3)) (aCons (eC (.int 8)) (aNil)))))))) (oNil)))) [6]))
  (sSeq (sIf (wNot (tTr (pE (callD 4 m__law_counter_rises [] (oCons (pV 2) (oCons (pE (eVar 3)) (oCons (pE (eVar 4)) (oCons (pE (callD 1 m__law_spans [] (oCons (pV 2) (oNil)))) (oNil)))))))))
   (sRet (eC (.bl false)))
   (sNx))
  (sIf (wOr (wNot (tTr (pE (callD 2 m__law_meeting_rises [] (oCons (pV 2) (oCons (pE (eVar 3)) (oNil))))))) (wNot (tTr (pE (callD 3 m__law_room_rises [] (oCons (pV 2) (oCons (pE (eVar 3)) (oCons (pE (eVar 4)) (oNil)))))))))
   (sRet (eC (.bl false)))
   (sNx))))))) : ∀ (ks : List Int) (x1 x2 x3 x4 : SV), (∀ k ∈ ks, k = 0 ∨ k = 1 ∨ k = 2 ∨ k = 3) → isPO (some x1) = false → isPO (some x2) = false → isPO (some x3) = false → isPO (some x4) = false →
    ∃ x1' x2' x3' x4', forL (gN 1) body (ks.map D.int) [.t (.seq (ns.map D.int)), x1, x2, x3, x4, .no, .no] = .nx [.t (.seq (ns.map D.int)), x1', x2', x3', x4', .no, .no]
  | [], x1, x2, x3, x4, _, _, _, _, _ => ⟨x1, x2, x3, x4, rfl⟩
  | k :: ks, x1, x2, x3, x4, hk, n1, n2, n3, n4 => by
    rw [List.map_cons, forL_cons (ρ' := [.t (.seq (ns.map D.int)), .t (.int k), x2, x3, x4, .no, .no]) (by simp [n1])]
    obtain ⟨s, o1, e1, g⟩ := v_pool (ns := ns) (hk k List.mem_cons_self)
    obtain ⟨r, s1, e2, a2, b2, g1⟩ := v_take (top := 6) g (by decide) (by decide)
    obtain ⟨n, hn⟩ : ∃ n : Nat, 1 + r = (n : Int) := ⟨(1 + r).toNat, by omega⟩
    obtain ⟨ds, hds⟩ : ∃ ds, ds = rngD 0 (n : Int) := ⟨_, rfl⟩
    have hlen : ds.length = n := by subst hds; unfold rngD; simp
    have hi : iRange1 (pE (eOp2 plusD (pE (eC (.int 1))) (pE (callD 2 m__law_take [] (oCons (pV 2) (oCons (pE (eC (.int 6))) (oNil))))))) [.t (.seq (ns.map D.int)), .t (.int k), .c (srcC s), x3, x4, .no, .no] = .ok ds [.t (.seq (ns.map D.int)), .t (.int k), .c (srcC s1), x3, x4, .no, .no] := by
      have h7 : (pE (eOp2 plusD (pE (eC (.int 1))) (pE (callD 2 m__law_take [] (oCons (pV 2) (oCons (pE (eC (.int 6))) (oNil))))))) [.t (.seq (ns.map D.int)), .t (.int k), .c (srcC s), x3, x4, .no, .no] = .ok (.d (.int n)) [.t (.seq (ns.map D.int)), .t (.int k), .c (srcC s1), x3, x4, .no, .no] := by simp [e2, hn]
      rw [iRange1_ev, h7, Rs.bind_ok, kRng_ev, pget_d, rngO_int (sm_of (by omega)), hds]
    obtain ⟨as, s2, e3, g2, l1, ha⟩ := v_arrivals (l := ds) (x0 := .t (.seq (ns.map D.int))) (x1 := .t (.int k)) (x3 := x3) (x4 := x4) (x6 := .no) g1
    obtain ⟨ls, s3, e4, g3, l2, hls⟩ := v_lengths (l := as.map mD) (x0 := .t (.seq (ns.map D.int))) (x1 := .t (.int k)) (x3 := .t (.lst (as.map mD))) (x4 := x4) (x5 := .no) g2
    rw [List.length_map] at l2
    have d1 : ds.length ≤ 100000 := by omega
    have d2 : as.length ≤ 100000 := by omega
    obtain ⟨h, s4, e5, gh, g4⟩ := v_spans g3
    obtain ⟨s5, o6, e6, g5⟩ := v_counter_rises (as := as) (ls := ls) (h := h) g4 ha hls l2 (by omega) (by omega) gh
    obtain ⟨s6, o7, e7, g6⟩ := v_meeting_rises (as := as) g5 ha (by omega) (by omega)
    obtain ⟨s7, o8, e8, g7⟩ := v_room_rises (as := as) (ls := ls) g6 ha hls l2 (by omega) (by omega)
    have hb' : body [.t (.seq (ns.map D.int)), .t (.int k), x2, x3, x4, .no, .no] = .nx [.t (.seq (ns.map D.int)), .t (.int k), .c (srcC s7), .t (.lst (as.map mD)), .t (.lst (ls.map D.int)), .no, .no] := by
      subst hb
      rcases e5 with ⟨e5, rfl⟩ | ⟨l, e5, rfl⟩
      · have e6 : m__law_counter_rises [.p (srcC s4), .t (.lst (as.map mD)), .t (.lst (ls.map D.int)), .t .non] = .ok (.bl true) (.p (srcC s5) :: o6) := e6
        simp [-iRange1_ev, n2, n3, n4, e1, hi, d1, e3, d2, e4, e5, e6, e7, e8]
      · have e6 : m__law_counter_rises [.p (srcC s4), .t (.lst (as.map mD)), .t (.lst (ls.map D.int)), .t (.lst (l.map spD2))] = .ok (.bl true) (.p (srcC s5) :: o6) := e6
        simp [-iRange1_ev, n2, n3, n4, e1, hi, d1, e3, d2, e4, e5, e6, e7, e8]
    rw [hb', forK_nx]
    exact law_loop hb ks _ _ _ _ (fun z hz => hk z (List.mem_cons_of_mem _ hz)) rfl rfl rfl rfl
theorem rng_ints (c : Nat) : rngD 0 (c : Int) = ((List.range c).map fun i => ((i : Nat) : Int)).map D.int := by
  unfold rngD
  rw [List.map_map]
  have : ((c : Int) - 0).toNat = c := by omega
  rw [this]
  apply List.map_congr_left
  intro i _
  show D.int (0 + (i : Int)) = D.int (i : Int)
  rw [Int.zero_add]
theorem says_law : Says m_law := fun ns hl => by
  obtain ⟨c, o, hc, e⟩ := v_rounds (l := ns.map D.int)
  rw [rng_ints] at e
  obtain ⟨x1, x2, x3, x4, q⟩ := law_loop (ns := ns) rfl ((List.range c).map fun i => ((i : Nat) : Int)) .no .no .no .no (fun k hk => by
    obtain ⟨i, hi, rfl⟩ := List.mem_map.mp hk
    have := List.mem_range.mp hi
    omega) rfl rfl rfl rfl
  simp [-List.map_map, m_law, e, q]
end K15

open PySem PySem.W PyProof.Rows
set_option maxRecDepth 100000 in
set_option maxHeartbeats 0 in
theorem PySem.Challenge.cw_risingday_k15_whole_rows_rise_holds : PySem.Challenge.rw_risingday_k15_whole_rows_rise.Holds := by
  w_on; o_law; k_head; (case hw => w_witness2)
  k_fill
  refine K15.walk (l := PySem.Challenge.rw_risingday_k15_whole_rows_rise) rfl rfl (fun w h Y => PySem.W.kIn_of Y) ?F
  case F =>
    intro w mg fa h KX G hmg
    refine' K15.all_mk K15.says_law KX G hmg ?a_Hours ?hnG ?htk ?pg_Hours ?hd_Hours ?po_Hours ?sa_Hours ?ha_Hours ?hm_Hours ?nb_bool_Hours ?nb_int_Hours ?nb_str_Hours ?nb_list_Hours ?nb_tuple_Hours ?nb_dict_Hours ?ic_Hours ?tc_Hours ?ib_NoneType_Hours ?ib_bool_Hours ?ib_int_Hours ?ib_str_Hours ?ib_list_Hours ?ib_tuple_Hours ?ib_dict_Hours ?mk_Hours ?kc_Hours ?na_Hours_own_spans ?z_all ?z_any ?z_bool ?z_enumerate ?z_int ?z_isinstance ?z_len ?z_list ?z_max ?z_min ?z_range ?z_sorted ?z_tuple ?z_zip ?q_DESKS_AT_MOST ?q_MOST_MINUTE ?q_MOST_SPANS ?d__law_rounds ?d__law_pool ?d__law_take ?d__law_moment ?d__law_one ?d_is_list ?d_is_integer ?d_is_between ?d_is_minute ?d_is_span ?d_is_hours ?d_Hours___init__ ?d_is_count ?d_is_moment ?d_check_moments ?d_check_counts ?d_check_desks ?d_check_hours ?d_Hours_gate_at ?d_latest_of ?d_so_many_th ?d_free_desk ?d_desk_begin ?d_moment_sum ?d_counter_row ?d__law_raised ?d_check_one_moment ?d_is_less ?d_is_earlier ?d__law_none_earlier ?d__law_spans ?d_is_within ?d_Hours___le__ ?d__law_counter_rises ?d_check_whole ?d_check_quorum ?d_meet_begin ?d_meet_end ?d_meeting_row ?d__law_meeting_rises ?d_check_notices ?d_turned_begin ?d_first_of ?d_early_end ?d_room_row ?d__law_room_rises ?d_law
    (case a_Hours => k_is)
    (case hnG => k_is)
    (case htk => k_is)
    (case pg_Hours => k_is)
    (case hd_Hours => k_is)
    (case po_Hours => k_is)
    (case sa_Hours => k_is)
    (case ha_Hours => k_is)
    (case hm_Hours => k_is)
    (case nb_bool_Hours => k_is)
    (case nb_int_Hours => k_is)
    (case nb_str_Hours => k_is)
    (case nb_list_Hours => k_is)
    (case nb_tuple_Hours => k_is)
    (case nb_dict_Hours => k_is)
    (case ic_Hours => k_is)
    (case tc_Hours => k_is)
    (case ib_NoneType_Hours => k_is)
    (case ib_bool_Hours => k_is)
    (case ib_int_Hours => k_is)
    (case ib_str_Hours => k_is)
    (case ib_list_Hours => k_is)
    (case ib_tuple_Hours => k_is)
    (case ib_dict_Hours => k_is)
    (case mk_Hours => k_is)
    (case kc_Hours => k_is)
    (case na_Hours_own_spans => k_is)
    (case z_all => k_is)
    (case z_any => k_is)
    (case z_bool => k_is)
    (case z_enumerate => k_is)
    (case z_int => k_is)
    (case z_isinstance => k_is)
    (case z_len => k_is)
    (case z_list => k_is)
    (case z_max => k_is)
    (case z_min => k_is)
    (case z_range => k_is)
    (case z_sorted => k_is)
    (case z_tuple => k_is)
    (case z_zip => k_is)
    (case q_DESKS_AT_MOST => k_is)
    (case q_MOST_MINUTE => k_is)
    (case q_MOST_SPANS => k_is)
    (case d__law_rounds => exact DL.datG_mk (by k_is) (by k_is) (by k_is) (by k_is))
    (case d__law_pool => exact DL.datG_mk (by k_is) (by k_is) (by k_is) (by k_is))
    (case d__law_take => exact DL.datG_mk (by k_is) (by k_is) (by k_is) (by k_is))
    (case d__law_moment => exact DL.datG_mk (by k_is) (by k_is) (by k_is) (by k_is))
    (case d__law_one => exact DL.datG_mk (by k_is) (by k_is) (by k_is) (by k_is))
    (case d_is_list => exact DL.datG_mk (by k_is) (by k_is) (by k_is) (by k_is))
    (case d_is_integer => exact DL.datG_mk (by k_is) (by k_is) (by k_is) (by k_is))
    (case d_is_between => exact DL.datG_mk (by k_is) (by k_is) (by k_is) (by k_is))
    (case d_is_minute => exact DL.datG_mk (by k_is) (by k_is) (by k_is) (by k_is))
    (case d_is_span => exact DL.datG_mk (by k_is) (by k_is) (by k_is) (by k_is))
    (case d_is_hours => exact DL.datG_mk (by k_is) (by k_is) (by k_is) (by k_is))
    (case d_Hours___init__ => exact DL.datMD_mk (by k_is) (by k_is) (by k_is) (by k_is) (by k_is) (by k_is) (.cons (rfl) (.nil)) (by simp))
    (case d_is_count => exact DL.datG_mk (by k_is) (by k_is) (by k_is) (by k_is))
    (case d_is_moment => exact DL.datG_mk (by k_is) (by k_is) (by k_is) (by k_is))
    (case d_check_moments => exact DL.datG_mk (by k_is) (by k_is) (by k_is) (by k_is))
    (case d_check_counts => exact DL.datG_mk (by k_is) (by k_is) (by k_is) (by k_is))
    (case d_check_desks => exact DL.datG_mk (by k_is) (by k_is) (by k_is) (by k_is))
    (case d_check_hours => exact DL.datG_mk (by k_is) (by k_is) (by k_is) (by k_is))
    (case d_Hours_gate_at => exact DL.datM_mk (by k_is) (by k_is) (by k_is) (by k_is) (by k_is))
    (case d_latest_of => exact DL.datG_mk (by k_is) (by k_is) (by k_is) (by k_is))
    (case d_so_many_th => exact DL.datG_mk (by k_is) (by k_is) (by k_is) (by k_is))
    (case d_free_desk => exact DL.datG_mk (by k_is) (by k_is) (by k_is) (by k_is))
    (case d_desk_begin => exact DL.datG_mk (by k_is) (by k_is) (by k_is) (by k_is))
    (case d_moment_sum => exact DL.datG_mk (by k_is) (by k_is) (by k_is) (by k_is))
    (case d_counter_row => exact DL.datG_mk (by k_is) (by k_is) (by k_is) (by k_is))
    (case d__law_raised => exact DL.datG_mk (by k_is) (by k_is) (by k_is) (by k_is))
    (case d_check_one_moment => exact DL.datG_mk (by k_is) (by k_is) (by k_is) (by k_is))
    (case d_is_less => exact DL.datG_mk (by k_is) (by k_is) (by k_is) (by k_is))
    (case d_is_earlier => exact DL.datG_mk (by k_is) (by k_is) (by k_is) (by k_is))
    (case d__law_none_earlier => exact DL.datG_mk (by k_is) (by k_is) (by k_is) (by k_is))
    (case d__law_spans => exact DL.datG_mk (by k_is) (by k_is) (by k_is) (by k_is))
    (case d_is_within => exact DL.datG_mk (by k_is) (by k_is) (by k_is) (by k_is))
    (case d_Hours___le__ => exact DL.datM_mk (by k_is) (by k_is) (by k_is) (by k_is) (by k_is))
    (case d__law_counter_rises => exact DL.datG_mk (by k_is) (by k_is) (by k_is) (by k_is))
    (case d_check_whole => exact DL.datG_mk (by k_is) (by k_is) (by k_is) (by k_is))
    (case d_check_quorum => exact DL.datG_mk (by k_is) (by k_is) (by k_is) (by k_is))
    (case d_meet_begin => exact DL.datG_mk (by k_is) (by k_is) (by k_is) (by k_is))
    (case d_meet_end => exact DL.datG_mk (by k_is) (by k_is) (by k_is) (by k_is))
    (case d_meeting_row => exact DL.datG_mk (by k_is) (by k_is) (by k_is) (by k_is))
    (case d__law_meeting_rises => exact DL.datG_mk (by k_is) (by k_is) (by k_is) (by k_is))
    (case d_check_notices => exact DL.datG_mk (by k_is) (by k_is) (by k_is) (by k_is))
    (case d_turned_begin => exact DL.datG_mk (by k_is) (by k_is) (by k_is) (by k_is))
    (case d_first_of => exact DL.datG_mk (by k_is) (by k_is) (by k_is) (by k_is))
    (case d_early_end => exact DL.datG_mk (by k_is) (by k_is) (by k_is) (by k_is))
    (case d_room_row => exact DL.datG_mk (by k_is) (by k_is) (by k_is) (by k_is))
    (case d__law_room_rises => exact DL.datG_mk (by k_is) (by k_is) (by k_is) (by k_is))
    (case d_law => exact DL.datG_mk (by k_is) (by k_is) (by k_is) (by k_is))
