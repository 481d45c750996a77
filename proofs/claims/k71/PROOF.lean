import PyProof.Rows.All
import Wide.All
import OpenK.AllK
import Wide.FinOn
import HandS.ForMost
import HandS.ForExc
import HandS.TupAny
import HandS.TupLe
import HandS.IsInst
import HandS.Style
import HandS.Flow
import HandS.SortInts
import HandS.TupSets
import HandS.RaiseMore
import KE.DataEq
import KE.LtData
import HandS.CallSlots
import HandS.More
import PySem.Challenge.RW_enoughaloft_k71_forecasts_written
set_option Elab.async false
set_option linter.all false
set_option maxRecDepth 100000
/-! PF: a layer of pure data over HandS: values PV, cells, and what a piece of syntax computes as a plain function. -/
namespace PF
open PySem PySem.Spec PyProof.Rows L2

/-- a value as plain data: tuples and frozen lists as trees, a list that is changed by the number of its cell -/
inductive PV where
  | non | bl (b : Bool) | int (i : Int) | str (x : Str) | tup (xs : List PV) | lst (xs : List PV) | scr (xs : List PV) | ref (n : Nat)
  deriving Inhabited

/-- what stands in a cell -/
inductive Cell where
  | lst (xs : List PV)
  deriving Inhabited
abbrev IH := List Cell
abbrev EnvP := List (Option PV)
/-- an exception: its class's name, its fields -/
structure PX where
  cls : Str
  fs : List (Str × PV)

inductive Res (α : Type) where
  | ok (a : α) (h : IH) | ex (x : PX) (h : IH) | bad
inductive SRes where
  | next (e : EnvP) (h : IH) | ret (v : PV) (h : IH) | brk (e : EnvP) (h : IH) | cont (e : EnvP) (h : IH) | ex (x : PX) (e : EnvP) (h : IH) | bad
abbrev EF := EnvP → IH → Res PV
abbrev TF := EnvP → IH → Res Bool
abbrev AF := EnvP → IH → Res (List PV)
abbrev SF := EnvP → IH → SRes
abbrev FnF := List PV → IH → Res PV

/-- a list that is read alone: known to the object (the script), or an object of the module -/
def Sc (K : PySem.W.Frag) (H : Hp) (a : Addr) (xs : List V) : Prop :=
  (∃ o, H a = some (.frz o (.lst xs))) ∨
    ∃ (o : Obj) (its : Array Value) (n : Nat), K.lookup a = some o ∧ o.cls = .type "list" ∧ o.dict = none ∧ o.data = .seq its n ∧ its.size ≤ sizeLine ∧ Vals xs its.toList
theorem Sc.sq {K H a xs} (h : Sc K H a xs) : SqL K H a xs := by
  rcases h with ⟨o, h⟩ | h
  · exact .inl (.inr ⟨o, h⟩)
  · exact .inr h

mutual
def Rep (K : PySem.W.Frag) (th rho : List Addr) (H : Hp) : PV → V → Prop
  | .non, v => v = .non
  | .bl b, v => v = .bl b
  | .int i, v => v = .int i
  | .str x, v => v = .str x
  | .tup ps, v => ∃ a xs, v = .ref a ∧ SqT K H a xs ∧ RepL K th rho H ps xs
  | .lst ps, v => ∃ a xs, v = .ref a ∧ (H a = some (.lst xs) ∧ a ∉ th ∧ a ∉ rho) ∧ RepL K th rho H ps xs
  | .scr ps, v => ∃ a xs, v = .ref a ∧ Sc K H a xs ∧ RepL K th rho H ps xs
  | .ref n, v => ∃ a, v = .ref a ∧ th[n]? = some a
def RepL (K : PySem.W.Frag) (th rho : List Addr) (H : Hp) : List PV → List V → Prop
  | [], vs => vs = []
  | p :: ps, vs => ∃ v vr, vs = v :: vr ∧ Rep K th rho H p v ∧ RepL K th rho H ps vr
end

/-- an object that a cell may be -/
def CellO (K : PySem.W.Frag) (th rho : List Addr) (H : Hp) : Cell → HO → Prop
  | .lst ps, o => ∃ xs, o = .lst xs ∧ RepL K th rho H ps xs
structure CellsOk (K : PySem.W.Frag) (th rho : List Addr) (H : Hp) (ih : IH) : Prop where
  len : th.length = ih.length
  nd : th.Nodup
  dj : ∀ a ∈ th, a ∉ rho
  at_ : ∀ (n : Nat) (c : Cell), ih[n]? = some c → ∃ a o, th[n]? = some a ∧ H a = some o ∧ CellO K th rho H c o
  rs : ∀ a ∈ rho, ∃ xs, H a = some (.lst xs)
/-- from (th, H) to (th', H'): what is no cell stands as it was -/
structure Ext (th : List Addr) (H : Hp) (th' : List Addr) (H' : Hp) : Prop where
  keep : ∀ a o, H a = some o → a ∉ th → H' a = some o
  new : ∀ a, a ∈ th' → a ∈ th ∨ H a = none
  pre : ∀ (n : Nat) (a : Addr), th[n]? = some a → th'[n]? = some a

section
variable {K : PySem.W.Frag} {th th' th1 th2 rho : List Addr} {H H' H1 H2 : Hp} {ih : IH}
theorem Ext.refl : Ext th H th H := ⟨fun _ _ h _ => h, fun _ h => .inl h, fun _ _ h => h⟩
theorem Ext.trans (a : Ext th H th1 H1) (b : Ext th1 H1 th2 H2) : Ext th H th2 H2 where
  keep := fun c o h n => b.keep c o (a.keep c o h n) (fun z => (a.new c z).elim n (fun q => by rw [q] at h; cases h))
  new := fun c h => by
    rcases b.new c h with q | q
    · exact a.new c q
    · by_cases hc : c ∈ th
      · exact .inl hc
      · refine .inr ?_
        cases e : H c with
        | none => rfl
        | some o => rw [a.keep c o e hc] at q; cases q
  pre := fun n c h => b.pre n c (a.pre n c h)
/-- the addresses of cells hold what cells hold -/
theorem CellsOk.cell (C : CellsOk K th rho H ih) {a : Addr} (h : a ∈ th) : ∃ xs, H a = some (.lst xs) := by
  obtain ⟨n, hn, e⟩ := List.getElem_of_mem h
  have hn' : n < ih.length := by rw [← C.len]; exact hn
  obtain ⟨b, o, h1, h2, h3⟩ := C.at_ n ih[n] (List.getElem?_eq_getElem hn')
  rw [List.getElem?_eq_getElem hn, e] at h1
  cases h1
  cases q : ih[n] with
  | lst ps =>
    rw [q] at h3
    obtain ⟨xs, rfl, _⟩ := h3
    exact ⟨xs, h2⟩
theorem Rd.ext {a : Addr} {u : HO} (hk : ∀ o, H a = some o → H' a = some o) (h : Rd H a u) : Rd H' a u := by
  rcases h with h | ⟨o, h⟩
  · exact .inl (hk _ h)
  · exact .inr ⟨o, hk _ h⟩
theorem Rd.some {a : Addr} {u : HO} (h : Rd H a u) : ∃ o, H a = some o := by
  rcases h with h | ⟨o, h⟩
  · exact ⟨_, h⟩
  · exact ⟨_, h⟩
theorem SqT.ext {a : Addr} {xs : List V} (C : ∀ b ∈ th, ∃ xs, H b = some (.lst xs)) (e : Ext th H th' H') (h : SqT K H a xs) : SqT K H' a xs := by
  rcases h with h | h
  · refine .inl (Rd.ext (fun o ho => e.keep a o ho fun z => ?_) h)
    obtain ⟨ys, q⟩ := C a z
    rcases h with h | ⟨u, h⟩
    · rw [h] at q; cases q
    · rw [h] at q; cases q
  · exact .inr h
theorem Sc.ext {a : Addr} {xs : List V} (C : ∀ b ∈ th, ∃ xs, H b = some (.lst xs)) (e : Ext th H th' H') (h : Sc K H a xs) : Sc K H' a xs := by
  rcases h with ⟨o, h⟩ | h
  · refine .inl ⟨o, e.keep a _ h fun z => ?_⟩
    obtain ⟨ys, q⟩ := C a z
    rw [h] at q; cases q
  · exact .inr h
mutual
theorem Rep.ext2 {rho2 : List Addr} (C : ∀ b ∈ th, ∃ xs, H b = some (.lst xs)) (e : Ext th H th' H') (hr : ∀ a ∈ rho2, a ∈ rho ∨ H a = none) : ∀ (p : PV) {v : V}, Rep K th rho H p v → Rep K th' rho2 H' p v
  | .non, _, h => h
  | .bl _, _, h => h
  | .int _, _, h => h
  | .str _, _, h => h
  | .tup ps, _, ⟨a, xs, h1, h2, h3⟩ => ⟨a, xs, h1, SqT.ext C e h2, RepL.ext2 C e hr ps h3⟩
  | .lst ps, _, ⟨a, xs, h1, ⟨h2, h4, h5⟩, h3⟩ => ⟨a, xs, h1, ⟨e.keep a _ h2 h4, fun z => (e.new a z).elim h4 (fun q => by rw [h2] at q; cases q), fun z => (hr a z).elim h5 (fun q => by rw [h2] at q; cases q)⟩, RepL.ext2 C e hr ps h3⟩
  | .scr ps, _, ⟨a, xs, h1, h2, h3⟩ => ⟨a, xs, h1, h2.ext C e, RepL.ext2 C e hr ps h3⟩
  | .ref n, _, ⟨a, h1, h2⟩ => ⟨a, h1, e.pre n a h2⟩
theorem RepL.ext2 {rho2 : List Addr} (C : ∀ b ∈ th, ∃ xs, H b = some (.lst xs)) (e : Ext th H th' H') (hr : ∀ a ∈ rho2, a ∈ rho ∨ H a = none) : ∀ (ps : List PV) {vs : List V}, RepL K th rho H ps vs → RepL K th' rho2 H' ps vs
  | [], _, h => h
  | p :: ps, _, ⟨v, vr, h1, h2, h3⟩ => ⟨v, vr, h1, Rep.ext2 C e hr p h2, RepL.ext2 C e hr ps h3⟩
end
theorem Rep.ext (C : ∀ b ∈ th, ∃ xs, H b = some (.lst xs)) (e : Ext th H th' H') (p : PV) {v : V} (h : Rep K th rho H p v) : Rep K th' rho H' p v := Rep.ext2 C e (fun _ z => .inl z) p h
theorem RepL.ext (C : ∀ b ∈ th, ∃ xs, H b = some (.lst xs)) (e : Ext th H th' H') (p : List PV) {v : List V} (h : RepL K th rho H p v) : RepL K th' rho H' p v := RepL.ext2 C e (fun _ z => .inl z) p h
mutual
/-- fewer reserved -/
theorem Rep.fewer {rho2 : List Addr} (hr : ∀ a ∈ rho2, a ∈ rho) : ∀ (p : PV) {v : V}, Rep K th rho H p v → Rep K th rho2 H p v
  | .non, _, h => h
  | .bl _, _, h => h
  | .int _, _, h => h
  | .str _, _, h => h
  | .tup ps, _, ⟨a, xs, h1, h2, h3⟩ => ⟨a, xs, h1, h2, RepL.fewer hr ps h3⟩
  | .lst ps, _, ⟨a, xs, h1, ⟨h2, h4, h5⟩, h3⟩ => ⟨a, xs, h1, ⟨h2, h4, fun z => h5 (hr a z)⟩, RepL.fewer hr ps h3⟩
  | .scr ps, _, ⟨a, xs, h1, h2, h3⟩ => ⟨a, xs, h1, h2, RepL.fewer hr ps h3⟩
  | .ref n, _, h => h
theorem RepL.fewer {rho2 : List Addr} (hr : ∀ a ∈ rho2, a ∈ rho) : ∀ (ps : List PV) {vs : List V}, RepL K th rho H ps vs → RepL K th rho2 H ps vs
  | [], _, h => h
  | p :: ps, _, ⟨v, vr, h1, h2, h3⟩ => ⟨v, vr, h1, Rep.fewer hr p h2, RepL.fewer hr ps h3⟩
end
mutual
/-- a reserved list is changed -/
theorem Rep.res {D : Addr} {ys zs : List V} (hD : H D = some (.lst ys)) (hd : D ∈ rho) : ∀ (p : PV) {v : V}, Rep K th rho H p v → Rep K th rho (upd H D (.lst zs)) p v
  | .non, _, h => h
  | .bl _, _, h => h
  | .int _, _, h => h
  | .str _, _, h => h
  | .tup ps, _, ⟨a, xs, h1, h2, h3⟩ => ⟨a, xs, h1, by
      rcases h2 with (h2 | ⟨o, h2⟩) | h2
      · exact .inl (.inl (by rw [upd_ne (ne_of h2 hD (by intro z; cases z))]; exact h2))
      · exact .inl (.inr ⟨o, by rw [upd_ne (ne_of h2 hD (by intro z; cases z))]; exact h2⟩)
      · exact .inr h2, RepL.res hD hd ps h3⟩
  | .lst ps, _, ⟨a, xs, h1, ⟨h2, h4, h5⟩, h3⟩ => ⟨a, xs, h1, ⟨by
      have ne : a ≠ D := fun z => h5 (by rw [z]; exact hd)
      rw [upd_ne ne]; exact h2, h4, h5⟩, RepL.res hD hd ps h3⟩
  | .scr ps, _, ⟨a, xs, h1, h2, h3⟩ => ⟨a, xs, h1, by
      rcases h2 with ⟨o, h2⟩ | h2
      · exact .inl ⟨o, by rw [upd_ne (ne_of h2 hD (by intro z; cases z))]; exact h2⟩
      · exact .inr h2, RepL.res hD hd ps h3⟩
  | .ref n, _, h => h
theorem RepL.res {D : Addr} {ys zs : List V} (hD : H D = some (.lst ys)) (hd : D ∈ rho) : ∀ (ps : List PV) {vs : List V}, RepL K th rho H ps vs → RepL K th rho (upd H D (.lst zs)) ps vs
  | [], _, h => h
  | p :: ps, _, ⟨v, vr, h1, h2, h3⟩ => ⟨v, vr, h1, Rep.res hD hd p h2, RepL.res hD hd ps h3⟩
end
theorem RepL.length : ∀ {ps : List PV} {vs : List V}, RepL K th rho H ps vs → ps.length = vs.length
  | [], _, h => by cases h; rfl
  | _ :: _, _, ⟨_, _, h1, _, h3⟩ => by subst h1; simp [RepL.length h3]
theorem RepL.get : ∀ {ps : List PV} {vs : List V} {i : Nat} {p : PV}, RepL K th rho H ps vs → ps[i]? = some p → ∃ v, vs[i]? = some v ∧ Rep K th rho H p v
  | [], _, _, _, _, e => by simp at e
  | _ :: _, _, 0, _, ⟨_, _, h1, h2, _⟩, e => by subst h1; simp at e; subst e; exact ⟨_, rfl, h2⟩
  | _ :: _, _, i + 1, p, ⟨_, _, h1, _, h3⟩, e => by
    subst h1
    obtain ⟨v, q1, q2⟩ := RepL.get (i := i) (p := p) h3 (by simpa using e)
    exact ⟨v, by simpa using q1, q2⟩
theorem RepL.append : ∀ {ps qs : List PV} {vs us : List V}, RepL K th rho H ps vs → RepL K th rho H qs us → RepL K th rho H (ps ++ qs) (vs ++ us)
  | [], _, _, _, h, g => by cases h; exact g
  | _ :: _, _, _, _, ⟨v, vr, h1, h2, h3⟩, g => by subst h1; exact ⟨v, _, rfl, h2, RepL.append h3 g⟩
theorem RepL.set {p : PV} {v : V} (r : Rep K th rho H p v) : ∀ {ps : List PV} {vs : List V} (i : Nat), RepL K th rho H ps vs → RepL K th rho H (ps.set i p) (vs.set i v)
  | [], _, _, h => by cases h; exact rfl
  | _ :: _, _, 0, ⟨_, vr, h1, _, h3⟩ => by subst h1; exact ⟨v, vr, rfl, r, h3⟩
  | _ :: _, _, i + 1, ⟨w, vr, h1, h2, h3⟩ => by subst h1; exact ⟨w, _, rfl, h2, RepL.set r i h3⟩
theorem RepL.take : ∀ {ps : List PV} {vs : List V} (n : Nat), RepL K th rho H ps vs → RepL K th rho H (ps.take n) (vs.take n)
  | _, _, 0, _ => by simp; exact rfl
  | [], _, _ + 1, h => by cases h; exact rfl
  | _ :: _, _, n + 1, ⟨v, vr, h1, h2, h3⟩ => by subst h1; exact ⟨v, _, rfl, h2, RepL.take n h3⟩
theorem RepL.drop : ∀ {ps : List PV} {vs : List V} (n : Nat), RepL K th rho H ps vs → RepL K th rho H (ps.drop n) (vs.drop n)
  | _, _, 0, h => h
  | [], _, _ + 1, h => by cases h; exact rfl
  | _ :: _, _, n + 1, ⟨_, _, h1, _, h3⟩ => by subst h1; exact RepL.drop n h3
theorem RepL.reverse : ∀ {ps : List PV} {vs : List V}, RepL K th rho H ps vs → RepL K th rho H ps.reverse vs.reverse
  | [], _, h => by cases h; exact rfl
  | p :: ps, _, ⟨v, vr, h1, h2, h3⟩ => by
    subst h1
    rw [List.reverse_cons, List.reverse_cons]
    exact RepL.append (RepL.reverse h3) ⟨v, [], rfl, h2, rfl⟩

theorem CellO.ext (C : ∀ b ∈ th, ∃ xs, H b = some (.lst xs)) (e : Ext th H th' H') {c : Cell} {o : HO} (h : CellO K th rho H c o) : CellO K th' rho H' c o := by
  cases c with
  | lst ps =>
    obtain ⟨xs, h1, h2⟩ := h
    exact ⟨xs, h1, RepL.ext C e ps h2⟩
end

/-- the slots -/
def EnvOk (K : PySem.W.Frag) (th rho : List Addr) (H : Hp) (env : EnvP) (σ : L2.St) : Prop :=
  env.length = σ.length ∧ ∀ (i : Nat) (p : PV), env[i]? = some (some p) → ∃ v, σ[i]? = some (some v) ∧ Rep K th rho H p v
theorem EnvOk.ext {K th th' rho H H'} {env : EnvP} {σ : L2.St} (C : ∀ b ∈ th, ∃ xs, H b = some (.lst xs)) (e : Ext th H th' H') (h : EnvOk K th rho H env σ) : EnvOk K th' rho H' env σ :=
  ⟨h.1, fun i p q => let ⟨v, h1, h2⟩ := h.2 i p q; ⟨v, h1, Rep.ext C e p h2⟩⟩
theorem EnvOk.set {K th rho H} {env : EnvP} {σ : L2.St} {i : Nat} {p : PV} {v : V} (h : EnvOk K th rho H env σ) (r : Rep K th rho H p v) : EnvOk K th rho H (env.set i (some p)) (σ.set i (some v)) := by
  refine ⟨by rw [List.length_set, List.length_set]; exact h.1, fun j q e => ?_⟩
  by_cases hj : i = j
  · subst hj
    have hl : i < env.length := by
      have := (List.getElem?_eq_some_iff.mp e).1
      rwa [List.length_set] at this
    rw [List.getElem?_set_self hl] at e
    cases e
    exact ⟨v, by rw [List.getElem?_set_self (by rw [← h.1]; exact hl)], r⟩
  · rw [List.getElem?_set_ne hj] at e
    obtain ⟨w, h1, h2⟩ := h.2 j q e
    exact ⟨w, by rw [List.getElem?_set_ne hj]; exact h1, h2⟩
/-- slots forgotten -/
def wipeP (env : EnvP) : List Nat → EnvP
  | [] => env
  | v :: vs => (wipeP env vs).set v none
theorem wipeP_length (env : EnvP) : ∀ vs : List Nat, (wipeP env vs).length = env.length
  | [] => rfl
  | v :: vs => by unfold wipeP; rw [List.length_set, wipeP_length env vs]
theorem EnvOk.wipe {K th rho H} {env : EnvP} {σ : L2.St} (h : EnvOk K th rho H env σ) : ∀ vs : List Nat, EnvOk K th rho H (wipeP env vs) (wipe σ vs)
  | [] => h
  | v :: vs => by
    have ih := EnvOk.wipe h vs
    refine ⟨by rw [wipeP_length, wipe_length]; exact h.1, fun j q e => ?_⟩
    unfold wipeP at e
    by_cases hj : v = j
    · subst hj
      by_cases hl : v < (wipeP env vs).length
      · rw [List.getElem?_set_self hl] at e; cases e
      · rw [List.getElem?_eq_none (by rw [List.length_set]; omega)] at e; cases e
    · rw [List.getElem?_set_ne hj] at e
      obtain ⟨w, h1, h2⟩ := ih.2 j q e
      refine ⟨w, ?_, h2⟩
      unfold L2.wipe
      rw [List.getElem?_set_ne hj]; exact h1
/-- the state -/
structure RSt (K : PySem.W.Frag) (th rho : List Addr) (σ : L2.St) (H : Hp) (env : EnvP) (ih : IH) : Prop where
  cells : CellsOk K th rho H ih
  env : EnvOk K th rho H env σ
theorem RSt.next {K th th' rho σ H H'} {env : EnvP} {ih ih' : IH} (R : RSt K th rho σ H env ih) (e : Ext th H th' H') (C : CellsOk K th' rho H' ih') : RSt K th' rho σ H' env ih' :=
  ⟨C, R.env.ext (fun _ h => R.cells.cell h) e⟩
theorem Rep.next {K th th' rho H H'} {ih : IH} {p : PV} {v : V} (h : Rep K th rho H p v) (C : CellsOk K th rho H ih) (e : Ext th H th' H') : Rep K th' rho H' p v := Rep.ext (fun _ h => C.cell h) e p h
theorem RepL.next {K th th' rho H H'} {ih : IH} {p : List PV} {v : List V} (h : RepL K th rho H p v) (C : CellsOk K th rho H ih) (e : Ext th H th' H') : RepL K th' rho H' p v := RepL.ext (fun _ h => C.cell h) e p h

/-- an exception as it lies: its class by name, its fields in its own dict -/
def FsRep (K : PySem.W.Frag) (th rho : List Addr) (H : Hp) : List (Str × PV) → List (Str × V) → Prop
  | [], vs => vs = []
  | (f, p) :: ps, vs => ∃ v vr, vs = (f, v) :: vr ∧ Rep K th rho H p v ∧ FsRep K th rho H ps vr
def ExR (K : PySem.W.Frag) (mg : Str → Option Value) (x : PX) (c : Value) (d : Option Addr) (th rho : List Addr) (H : Hp) : Prop :=
  ∃ C, mg x.cls = some (.ref C) ∧ c = .ref C ∧ ((x.fs = [] ∧ d = none) ∨ ∃ da fv, d = some da ∧ H da = some (.xd fv) ∧ FsRep K th rho H x.fs fv)

/-- what is wanted behind a computation -/
def Post {α β : Type} (K : PySem.W.Frag) (mg : Str → Option Value) (th rho : List Addr) (H : Hp) (rel : List Addr → Hp → α → β → Prop) (Q : β → Hp → Prop) (E : XK) : Res α → Prop
  | .ok a ih' => ∀ th' b H', Ext th H th' H' → CellsOk K th' rho H' ih' → rel th' H' a b → Q b H'
  | .ex x ih' => ∀ th' c d H', Ext th H th' H' → CellsOk K th' rho H' ih' → ExR K mg x c d th' rho H' → E c d H'
  | .bad => False

def Res.bind {α β : Type} : Res α → (α → IH → Res β) → Res β
  | .ok a h, f => f a h
  | .ex x h, _ => .ex x h
  | .bad, _ => .bad
@[simp] theorem Res.bind_ok {α β : Type} (a : α) (h : IH) (f : α → IH → Res β) : (Res.ok a h).bind f = f a h := rfl
@[simp] theorem Res.bind_bad {α β : Type} (f : α → IH → Res β) : (Res.bad : Res α).bind f = .bad := rfl
@[simp] theorem Res.bind_ex {α β : Type} (x : PX) (h : IH) (f : α → IH → Res β) : (Res.ex x h : Res α).bind f = .ex x h := rfl

section
variable {α β γ δ : Type} {K : PySem.W.Frag} {mg : Str → Option Value} {th th1 rho : List Addr} {H H1 : Hp} {rel : List Addr → Hp → α → β → Prop} {rel2 : List Addr → Hp → γ → δ → Prop} {Q : β → Hp → Prop} {Q2 : δ → Hp → Prop} {E : XK}
theorem Post.shift {r : Res α} (h : Post K mg th rho H rel Q E r) (e : Ext th H th1 H1) : Post K mg th1 rho H1 rel Q E r := by
  cases r with
  | ok a ih => exact fun th' b H' e' C r => h th' b H' (e.trans e') C r
  | ex x ih => exact fun th' c d H' e' C r => h th' c d H' (e.trans e') C r
  | bad => exact h
/-- the first of two computations -/
theorem Post.step {r : Res α} {f : α → IH → Res γ} (h : Post K mg th rho H rel2 Q2 E (r.bind f))
    (k : ∀ a ih1 th1 b H1, Ext th H th1 H1 → CellsOk K th1 rho H1 ih1 → rel th1 H1 a b → Post K mg th1 rho H1 rel2 Q2 E (f a ih1) → Q b H1) : Post K mg th rho H rel Q E r := by
  cases r with
  | ok a ih => exact fun th' b H' e' C r => k a ih th' b H' e' C r (Post.shift h e')
  | ex x ih => exact h
  | bad => exact h
theorem Post.here {a : α} {b : β} {ih : IH} (h : Post K mg th rho H rel Q E (.ok a ih)) (C : CellsOk K th rho H ih) (r : rel th H a b) : Q b H := h th b H Ext.refl C r
end

/-! ### new objects, changed cells -/
section
variable {K : PySem.W.Frag} {th rho : List Addr} {H : Hp} {ih : IH} {a : Addr} {o : HO}
theorem CellsOk.nth (C : CellsOk K th rho H ih) (h : H a = none) : a ∉ th := fun z => by
  obtain ⟨xs, e⟩ := C.cell z
  rw [h] at e; cases e
theorem CellsOk.nrho (C : CellsOk K th rho H ih) (h : H a = none) : a ∉ rho := fun z => by
  obtain ⟨xs, e⟩ := C.rs a z
  rw [h] at e; cases e
theorem ext_new (h : H a = none) : Ext th H th (upd H a o) := ⟨fun b u e _ => by rw [upd_ne (ne_of_none e h)]; exact e, fun _ z => .inl z, fun _ _ z => z⟩
theorem CellsOk.ext {th' : List Addr} {H' : Hp} (C : CellsOk K th rho H ih) (e : Ext th H th H') (k : ∀ b ∈ th, H' b = H b) : CellsOk K th rho H' ih :=
  ⟨C.len, C.nd, C.dj, fun n c q => by
    obtain ⟨b, u, h1, h2, h3⟩ := C.at_ n c q
    exact ⟨b, u, h1, by rw [k b (List.mem_of_getElem? h1)]; exact h2, CellO.ext (fun _ h => C.cell h) e h3⟩,
    fun b hb => by
      obtain ⟨xs, q⟩ := C.rs b hb
      exact ⟨xs, e.keep b _ q fun z => C.dj b z hb⟩⟩
theorem CellsOk.new (C : CellsOk K th rho H ih) (h : H a = none) : CellsOk K th rho (upd H a o) ih :=
  C.ext (th' := th) (ext_new h) fun b hb => upd_ne (fun z => C.nth h (z ▸ hb))
/-- a new cell -/
theorem ext_cell (h : H a = none) : Ext th H (th ++ [a]) (upd H a o) :=
  ⟨fun b u e _ => by rw [upd_ne (ne_of_none e h)]; exact e, fun b z => by
    rcases List.mem_append.mp z with z | z
    · exact .inl z
    · rw [List.mem_singleton.mp z]; exact .inr h, fun n b z => by rw [List.getElem?_append_left (List.getElem?_eq_some_iff.mp z).1]; exact z⟩
theorem CellsOk.cellNew (C : CellsOk K th rho H ih) (h : H a = none) {c : Cell} (co : CellO K (th ++ [a]) rho (upd H a o) c o) : CellsOk K (th ++ [a]) rho (upd H a o) (ih ++ [c]) := by
  have e := ext_cell (th := th) (H := H) (o := o) h
  refine ⟨by simp [C.len], ?_, fun b hb => ?_, fun n d q => ?_, fun b hb => ?_⟩
  · rw [List.nodup_append]
    refine ⟨C.nd, by simp, fun x hx y hy => ?_⟩
    rw [List.mem_singleton.mp hy]
    exact fun z => C.nth h (z ▸ hx)
  · rcases List.mem_append.mp hb with z | z
    · exact C.dj b z
    · rw [List.mem_singleton.mp z]; exact C.nrho h
  · by_cases hn : n < ih.length
    · rw [List.getElem?_append_left hn] at q
      obtain ⟨b, u, h1, h2, h3⟩ := C.at_ n d q
      refine ⟨b, u, e.pre n b h1, ?_, CellO.ext (fun _ h => C.cell h) e h3⟩
      rw [upd_ne (ne_of_none h2 h)]; exact h2
    · rw [List.getElem?_append_right (by omega)] at q
      have hz : n - ih.length = 0 := by
        have := (List.getElem?_eq_some_iff.mp q).1
        simp at this; omega
      rw [hz] at q
      cases q
      have hn' : n = th.length := by rw [C.len]; omega
      subst hn'
      refine ⟨a, o, by simp, upd_same, co⟩
  · obtain ⟨xs, q⟩ := C.rs b hb
    exact ⟨xs, by rw [upd_ne (ne_of_none q h)]; exact q⟩
/-- a cell is changed -/
theorem ext_set {n : Nat} (h : th[n]? = some a) : Ext th H th (upd H a o) :=
  ⟨fun b u e hb => by
    have hba : b ≠ a := fun z => hb (by rw [z]; exact List.mem_of_getElem? h)
    rw [upd_ne hba]; exact e, fun _ z => .inl z, fun _ _ z => z⟩
theorem CellsOk.cellSet (C : CellsOk K th rho H ih) {n : Nat} (h : th[n]? = some a) {c : Cell} (co : CellO K th rho (upd H a o) c o) : CellsOk K th rho (upd H a o) (ih.set n c) := by
  have e := ext_set (o := o) (H := H) h
  refine ⟨by simp [C.len], C.nd, C.dj, fun m d q => ?_, fun b hb => ?_⟩
  · by_cases hm : n = m
    · subst hm
      have hl : n < ih.length := by
        have := (List.getElem?_eq_some_iff.mp q).1
        rwa [List.length_set] at this
      rw [List.getElem?_set_self hl] at q
      cases q
      exact ⟨a, o, h, upd_same, co⟩
    · rw [List.getElem?_set_ne hm] at q
      obtain ⟨b, u, h1, h2, h3⟩ := C.at_ m d q
      have hb : b ≠ a := fun z => hm (by
        subst z
        obtain ⟨l1, e1⟩ := List.getElem?_eq_some_iff.mp h
        obtain ⟨l2, e2⟩ := List.getElem?_eq_some_iff.mp h1
        exact (List.getElem_inj C.nd).mp (e1.trans e2.symm))
      exact ⟨b, u, h1, by rw [upd_ne hb]; exact h2, CellO.ext (fun _ h => C.cell h) e h3⟩
  · obtain ⟨xs, q⟩ := C.rs b hb
    have hba : b ≠ a := fun z => C.dj b (by rw [z]; exact List.mem_of_getElem? h) hb
    exact ⟨xs, by rw [upd_ne hba]; exact q⟩
end
end PF

set_option Elab.async false
set_option linter.all false
set_option maxRecDepth 100000
/-! PF: expressions. -/
namespace PF
open PySem PySem.Spec PyProof.Rows L2

/-! ### readings by plain functions -/
abbrev relV (K : PySem.W.Frag) (rho : List Addr) : List Addr → Hp → PV → V → Prop := fun th H p v => Rep K th rho H p v
abbrev relA (K : PySem.W.Frag) (rho : List Addr) : List Addr → Hp → List PV → List V → Prop := fun th H p v => RepL K th rho H p v
abbrev relB : List Addr → Hp → Bool → Bool → Prop := fun _ _ a b => a = b
def tE (K : PySem.W.Frag) (mg : Str → Option Value) (W : WX) (F : EF) : TE := fun σ H Q => ∃ th rho env ih, RSt K th rho σ H env ih ∧ Post K mg th rho H (relV K rho) Q (fun c d H' => W c d σ H') (F env ih)
def tT (K : PySem.W.Frag) (mg : Str → Option Value) (W : WX) (F : TF) : TT := fun σ H Q => ∃ th rho env ih, RSt K th rho σ H env ih ∧ Post K mg th rho H relB Q (fun c d H' => W c d σ H') (F env ih)
def tA (K : PySem.W.Frag) (mg : Str → Option Value) (W : WX) (F : AF) : TA := fun σ H Q => ∃ th rho env ih, RSt K th rho σ H env ih ∧ Post K mg th rho H (relA K rho) Q (fun c d H' => W c d σ H') (F env ih)
abbrev PEf (X : Cx) (W : WX) (e : Expr) (F : EF) : Prop := PE X e (tE X.K X.mg W F)
abbrev PTf (X : Cx) (W : WX) (e : Expr) (F : TF) : Prop := PT X e (tT X.K X.mg W F)
abbrev PWf (X : Cx) (W : WX) (e : Expr) (F : TF) : Prop := PW X e (tT X.K X.mg W F)
abbrev PAf (X : Cx) (W : WX) (es : List Expr) (F : AF) : Prop := PA X es (tA X.K X.mg W F)

section
variable {X : Cx}
theorem imE {e : Expr} {t t' : TE} (h : PE X e t) (i : ∀ σ H Q, t' σ H Q → t σ H Q) : PE X e t' := ⟨fun pins s σ H Q I q => h.run pins s σ H Q I (i _ _ _ q)⟩
theorem imT {e : Expr} {t t' : TT} (h : PT X e t) (i : ∀ σ H Q, t' σ H Q → t σ H Q) : PT X e t' := ⟨fun pins s σ H Q I q => h.run pins s σ H Q I (i _ _ _ q)⟩
theorem imW {e : Expr} {t t' : TT} (h : PW X e t) (i : ∀ σ H Q, t' σ H Q → t σ H Q) : PW X e t' := ⟨fun wh pins s σ H Q I q => h.run wh pins s σ H Q I (i _ _ _ q)⟩
theorem imA {e : List Expr} {t t' : TA} (h : PA X e t) (i : ∀ σ H Q, t' σ H Q → t σ H Q) : PA X e t' := ⟨fun p pins s σ H Q I q => h.run p pins s σ H Q I (i _ _ _ q)⟩
end

def ofOpt {α : Type} (o : Option α) (h : IH) : Res α := match o with
  | some a => .ok a h
  | none => .bad
@[simp] theorem ofOpt_some {α : Type} (a : α) (h : IH) : ofOpt (some a) h = .ok a h := rfl
@[simp] theorem ofOpt_none {α : Type} (h : IH) : (ofOpt none h : Res α) = .bad := rfl

/-! ### names, constants -/
def eVar (i : Nat) : EF := fun env ih => match env[i]? with
  | some (some p) => .ok p ih
  | _ => .bad
def eC (p : PV) : EF := fun _ ih => .ok p ih
section
variable {X : Cx} {W : WX} {pos : Pos}
theorem fv (i : Nat) {x : Str} (hN : X.N[i]? = some x := by rfl) (hv : Vis X.env.scope x := by first | exact Or.inl rfl | exact Or.inr (Or.inl rfl) | exact Or.inr (Or.inr rfl)) (hd : (x == ("__debug__" : Str)) = false := by decide)
    (hcd : (x == ("__classdict__" : Str)) = false := by decide) : PEf X W (.Name x pos) (eVar i) := by
  refine imE (pe_var (i := i) hN hv hd hcd) fun σ H Q ⟨th, rho, env, ih, R, h⟩ => ?_
  unfold eVar at h
  cases e : env[i]? with
  | none => rw [e] at h; exact h.elim
  | some o =>
    cases o with
    | none => rw [e] at h; exact h.elim
    | some p =>
      rw [e] at h
      obtain ⟨v, h1, h2⟩ := R.env.2 i p e
      exact ⟨v, h1, h.here R.cells h2⟩
theorem fC {e : Expr} {p : PV} {v : V} (h : PE X e (tC v)) (r : ∀ th rho H, Rep X.K th rho H p v) : PEf X W e (eC p) :=
  imE h fun σ H Q ⟨th, rho, env, ih, R, q⟩ => q.here R.cells (r _ _ _)
theorem fint {i : Int} {j pos} : PEf X W (.Constant (.int i) j pos) (eC (.int i)) := fC pe_int fun _ _ _ => rfl
theorem fstr {x : Str} {j pos} : PEf X W (.Constant (.str x) j pos) (eC (.str x)) := fC pe_str fun _ _ _ => rfl
theorem fbl {b : Bool} {j pos} : PEf X W (.Constant (.bool b) j pos) (eC (.bl b)) := fC pe_bl fun _ _ _ => rfl
theorem fnon {j pos} : PEf X W (.Constant .none j pos) (eC .non) := fC pe_non fun _ _ _ => rfl
/-- a module's constant that is plain -/
theorem fglob {x : Str} {p : PV} {v : V} {u : Value} (hg : Gl X x) (hm : X.mg x = some u) (r : RelV v u) (rp : ∀ th rho H, Rep X.K th rho H p v) (hd : (x == ("__debug__" : Str)) = false := by decide) : PEf X W (.Name x pos) (eC p) :=
  fC (pe_glob hg hm r hd) rp
end

/-! ### operators by values -/
abbrev OpG := IH → PV → PV → Option PV
abbrev OpGB := IH → PV → PV → Option Bool
def OpS (K : PySem.W.Frag) (r : R2) (g : OpG) : Prop :=
  ∀ (th rho : List Addr) (H : Hp) (ih : IH) (p q : PV) (x y : V) (z : PV) (Q : VK), CellsOk K th rho H ih → Rep K th rho H p x → Rep K th rho H q y → g ih p q = some z →
    (∀ v H', Ext th H th H' → CellsOk K th rho H' ih → Rep K th rho H' z v → Q v H') → r x y H Q
def OpF (X : Cx) (f : Value → Value → Sem Value) (g : OpG) : Prop := ∃ r, OpR X f r ∧ OpS X.K r g
def orG (g g' : OpG) : OpG := fun ih p q => match g ih p q with
  | some z => some z
  | none => g' ih p q
theorem OpF.or {X : Cx} {f : Value → Value → Sem Value} {g g' : OpG} : OpF X f g → OpF X f g' → OpF X f (orG g g') := fun ⟨r, h1, h2⟩ ⟨r', h1', h2'⟩ => by
  refine ⟨_, h1.or h1', fun th rho H ih p q x y z Q C rp rq hz hQ => ?_⟩
  unfold orG at hz
  cases e : g ih p q with
  | some z' =>
    rw [e] at hz
    cases hz
    exact .inl (h2 th rho H ih p q x y _ Q C rp rq e hQ)
  | none =>
    rw [e] at hz
    exact .inr (h2' th rho H ih p q x y _ Q C rp rq hz hQ)
/-- an operator on two values that makes no object -/
theorem OpS.flat {K : PySem.W.Frag} {r : R2} {g : OpG} (h : ∀ (th rho : List Addr) (H : Hp) (ih : IH) (p q : PV) (x y : V) (z : PV) (Q : VK), CellsOk K th rho H ih → Rep K th rho H p x → Rep K th rho H q y → g ih p q = some z →
    (∀ v, Rep K th rho H z v → Q v H) → r x y H Q) : OpS K r g :=
  fun th rho H ih p q x y z Q C rp rq hz hQ => h th rho H ih p q x y z Q C rp rq hz fun v rv => hQ v H Ext.refl C rv

def eBin (g : OpG) (F G : EF) : EF := fun env ih => (F env ih).bind fun p h1 => (G env h1).bind fun q h2 => ofOpt (g h2 p q) h2
def bG (g : OpGB) : OpG := fun ih p q => (g ih p q).map PV.bl
def eCmp (g : OpGB) (F G : EF) : EF := eBin (bG g) F G
def tCmp (g : OpGB) (F G : EF) : TF := fun env ih => (F env ih).bind fun p h1 => (G env h1).bind fun q h2 => ofOpt (g h2 p q) h2
def eChain (g g' : OpGB) (F G G' : EF) : EF := fun env ih => (F env ih).bind fun p h1 => (G env h1).bind fun q h2 => (ofOpt (g h2 p q) h2).bind fun b h3 => if b then (G' env h3).bind fun q' h4 => ofOpt (bG g' h4 q q') h4 else .ok (.bl false) h3
def tChainF (g g' : OpGB) (F G G' : EF) : TF := fun env ih => (F env ih).bind fun p h1 => (G env h1).bind fun q h2 => (ofOpt (g h2 p q) h2).bind fun b h3 => if b then (G' env h3).bind fun q' h4 => ofOpt (g' h4 q q') h4 else .ok false h3

section
variable {X : Cx} {W : WX} {a b c : Expr} {F G G' : EF} {pos : Pos}
theorem bin_step {r : R2} {g : OpG} (hs : OpS X.K r g) {σ : L2.St} {H : Hp} {Q : VK} (h : tE X.K X.mg W (eBin g F G) σ H Q) : tOp r (tE X.K X.mg W F) (tE X.K X.mg W G) σ H Q := by
  obtain ⟨th, rho, env, ih, R, h⟩ := h
  refine ⟨th, rho, env, ih, R, Post.step h fun p ih1 th1 x H1 e1 C1 r1 h1 => ?_⟩
  refine ⟨th1, rho, env, ih1, R.next e1 C1, Post.step h1 fun q ih2 th2 y H2 e2 C2 r2 h2 => ?_⟩
  cases e : g ih2 p q with
  | none => rw [e] at h2; exact h2.elim
  | some z =>
    rw [e] at h2
    exact hs th2 rho H2 ih2 p q x y z Q C2 (r1.next C1 e2) r2 e fun v H' e' C' r' => h2 th2 v H' e' C' r'
theorem fbin {op : Operator} {g : OpG} (ho : OpF X (binaryOp op) g) (ha : PEf X W a F) (hb : PEf X W b G) : PEf X W (.BinOp a op b pos) (eBin g F G) := by
  obtain ⟨r, hr, hs⟩ := ho
  exact imE (pe_op hr ha hb) fun σ H Q h => bin_step hs h
theorem fcmp {op : CmpOp} {g : OpGB} (ho : OpF X (compareOp op) (bG g)) (ha : PEf X W a F) (hb : PEf X W b G) (hm : behindInMarks op b = false) : PEf X W (.Compare a [op] [b] pos) (eCmp g F G) := by
  obtain ⟨r, hr, hs⟩ := ho
  exact imE (pe_cmpR hr ha hb hm) fun σ H Q h => bin_step hs h
theorem ftcmp {op : CmpOp} {g : OpGB} (ho : OpF X (compareOp op) (bG g)) (ha : PEf X W a F) (hb : PEf X W b G) (hm : behindInMarks op b = false) : PTf X W (.Compare a [op] [b] pos) (tCmp g F G) := by
  obtain ⟨r, hr, hs⟩ := ho
  refine imT (pt_cmpR hr ha hb hm) fun σ H Q ⟨th, rho, env, ih, R, h⟩ => ?_
  refine ⟨th, rho, env, ih, R, Post.step h fun p ih1 th1 x H1 e1 C1 r1 h1 => ?_⟩
  refine ⟨th1, rho, env, ih1, R.next e1 C1, Post.step h1 fun q ih2 th2 y H2 e2 C2 r2 h2 => ?_⟩
  cases e : g ih2 p q with
  | none => rw [e] at h2; exact h2.elim
  | some z =>
    rw [e] at h2
    exact hs th2 rho H2 ih2 p q x y (.bl z) _ C2 (r1.next C1 e2) r2 (by unfold bG; rw [e]; rfl) fun v H' e' C' r' => ⟨z, r', h2 th2 z H' e' C' rfl⟩
theorem fchain {op op' : CmpOp} {g g' : OpGB} (ho : OpF X (compareOp op) (bG g)) (ho' : OpF X (compareOp op') (bG g')) (ha : PEf X W a F) (hb : PEf X W b G) (hc : PEf X W c G')
    (hm : lastMarks [op, op'] [b, c] = false := by with_unfolding_all rfl) : PEf X W (.Compare a [op, op'] [b, c] pos) (eChain g g' F G G') := by
  obtain ⟨r, hr, hs⟩ := ho
  obtain ⟨r', hr', hs'⟩ := ho'
  refine imE (pe_chain hr hr' ha hb hc hm) fun σ H Q ⟨th, rho, env, ih, R, h⟩ => ?_
  refine ⟨th, rho, env, ih, R, Post.step h fun p ih1 th1 x H1 e1 C1 r1 h1 => ?_⟩
  refine ⟨th1, rho, env, ih1, R.next e1 C1, Post.step h1 fun q ih2 th2 y H2 e2 C2 r2 h2 => ?_⟩
  cases e : g ih2 p q with
  | none => rw [e] at h2; exact h2.elim
  | some z =>
    rw [e] at h2
    refine hs th2 rho H2 ih2 p q x y (.bl z) _ C2 (r1.next C1 e2) r2 (by unfold bG; rw [e]; rfl) fun v H' e' C' r' => ⟨z, r', ?_⟩
    have R3 := (R.next e1 C1).next (e2.trans e') C'
    have h3 := Post.shift h2 e'
    cases z with
    | false => exact (if_neg Bool.false_ne_true).mpr (h3.here C' rfl)
    | true =>
      refine (if_pos rfl).mpr ⟨th2, rho, env, ih2, R3, Post.step h3 fun q' ih4 th4 w H4 e4 C4 r4 h4 => ?_⟩
      cases e5 : bG g' ih4 q q' with
      | none => rw [e5] at h4; exact h4.elim
      | some z' =>
        rw [e5] at h4
        exact hs' th4 rho H4 ih4 q q' y w z' Q C4 ((r2.next C2 e').next C' e4) r4 e5 fun v H' e' C' r' => h4 th4 v H' e' C' r'
theorem ftchain {op op' : CmpOp} {g g' : OpGB} (ho : OpF X (compareOp op) (bG g)) (ho' : OpF X (compareOp op') (bG g')) (ha : PEf X W a F) (hb : PEf X W b G) (hc : PEf X W c G')
    (hm : lastMarks [op, op'] [b, c] = false := by with_unfolding_all rfl) : PTf X W (.Compare a [op, op'] [b, c] pos) (tChainF g g' F G G') := by
  obtain ⟨r, hr, hs⟩ := ho
  obtain ⟨r', hr', hs'⟩ := ho'
  refine imT (pt_chain hr hr' ha hb hc hm) fun σ H Q ⟨th, rho, env, ih, R, h⟩ => ?_
  refine ⟨th, rho, env, ih, R, Post.step h fun p ih1 th1 x H1 e1 C1 r1 h1 => ?_⟩
  refine ⟨th1, rho, env, ih1, R.next e1 C1, Post.step h1 fun q ih2 th2 y H2 e2 C2 r2 h2 => ?_⟩
  cases e : g ih2 p q with
  | none => rw [e] at h2; exact h2.elim
  | some z =>
    rw [e] at h2
    refine hs th2 rho H2 ih2 p q x y (.bl z) _ C2 (r1.next C1 e2) r2 (by unfold bG; rw [e]; rfl) fun v H' e' C' r' => ⟨z, r', ?_⟩
    have R3 := (R.next e1 C1).next (e2.trans e') C'
    have h3 := Post.shift h2 e'
    cases z with
    | false => exact (if_neg Bool.false_ne_true).mpr ⟨false, rfl, h3.here C' rfl⟩
    | true =>
      refine (if_pos rfl).mpr ⟨th2, rho, env, ih2, R3, Post.step h3 fun q' ih4 th4 w H4 e4 C4 r4 h4 => ?_⟩
      cases e5 : g' ih4 q q' with
      | none => rw [e5] at h4; exact h4.elim
      | some z' =>
        rw [e5] at h4
        exact hs' th4 rho H4 ih4 q q' y w (.bl z') _ C4 ((r2.next C2 e').next C' e4) r4 (by unfold bG; rw [e5]; rfl) fun v H' e' C' r' => ⟨z', r', h4 th4 z' H' e' C' rfl⟩
end

/-! ### tests -/
def trP (ih : IH) : PV → Option Bool
  | .non => some false
  | .bl b => some b
  | .int i => some (i != 0)
  | .str x => if x.length ≤ sizeLine then some ((x.length : Int) != 0) else none
  | .tup xs => some (!xs.isEmpty)
  | .lst xs => some (!xs.isEmpty)
  | .scr xs => some (!xs.isEmpty)
  | .ref n => match ih[n]? with
    | some (.lst xs) => some (!xs.isEmpty)
    | none => none
theorem RepL.emp {K th rho H} {ps : List PV} {xs : List V} (h : RepL K th rho H ps xs) : xs.isEmpty = ps.isEmpty := by
  cases ps with
  | nil => cases h; rfl
  | cons p ps => obtain ⟨v, vr, e, _⟩ := h; subst e; rfl
/-- the cell that a number names -/
theorem CellsOk.ref {K th rho H} {ih : IH} (C : CellsOk K th rho H ih) {n : Nat} {a : Addr} {ps : List PV} (h : th[n]? = some a) (e : ih[n]? = some (.lst ps)) : ∃ xs, H a = some (.lst xs) ∧ RepL K th rho H ps xs := by
  obtain ⟨b, o, h1, h2, xs, h3, h4⟩ := C.at_ n _ e
  rw [h] at h1; cases h1
  subst h3
  exact ⟨xs, h2, h4⟩
theorem tru_of {K th rho H} {ih : IH} {p : PV} {v : V} {b : Bool} (C : CellsOk K th rho H ih) (r : Rep K th rho H p v) (h : trP ih p = some b) : TruV K v H b := by
  cases p with
  | non => cases r; cases h; exact rfl
  | bl k => cases r; cases h; exact rfl
  | int i => cases r; cases h; exact rfl
  | str x =>
    cases r
    simp only [trP] at h
    split at h
    · rename_i hz; cases h; exact ⟨hz, rfl⟩
    · cases h
  | tup xs => obtain ⟨a, ys, rfl, h1, h2⟩ := r; cases h; exact .inr (.inl ⟨ys, h1, by rw [h2.emp]⟩)
  | lst xs => obtain ⟨a, ys, rfl, h1, h2⟩ := r; cases h; exact .inl ⟨ys, .of h1.1, by rw [h2.emp]⟩
  | scr xs => obtain ⟨a, ys, rfl, h1, h2⟩ := r; cases h; exact .inl ⟨ys, h1.sq, by rw [h2.emp]⟩
  | ref n =>
    obtain ⟨a, rfl, h1⟩ := r
    simp only [trP] at h
    cases e : ih[n]? with
    | none => rw [e] at h; cases h
    | some c =>
      cases c with
      | lst ps =>
        rw [e] at h
        cases h
        obtain ⟨xs, h2, h3⟩ := C.ref h1 e
        exact .inl ⟨xs, .of h2, by rw [h3.emp]⟩
def tTru (F : EF) : TF := fun env ih => (F env ih).bind fun p h => ofOpt (trP h p) h
def tAndF (F G : TF) : TF := fun env ih => (F env ih).bind fun b h => if b then G env h else .ok false h
def tOrF (F G : TF) : TF := fun env ih => (F env ih).bind fun b h => if b then .ok true h else G env h
def tNotF (F : TF) : TF := fun env ih => (F env ih).bind fun b h => .ok (!b) h
def blOf : PV → Option Bool
  | .bl b => some b
  | _ => none
def eAnd (F G : EF) : EF := fun env ih => (F env ih).bind fun p h => (ofOpt (blOf p) h).bind fun b h => if b then G env h else .ok (.bl false) h
def eOr (F G : EF) : EF := fun env ih => (F env ih).bind fun p h => (ofOpt (blOf p) h).bind fun b h => if b then .ok (.bl true) h else G env h
def eNot (F : EF) : EF := fun env ih => (F env ih).bind fun p h => (ofOpt (blOf p) h).bind fun b h => .ok (.bl (!b)) h
def eIf (T : TF) (F G : EF) : EF := fun env ih => (T env ih).bind fun b h => if b then F env h else G env h
section
variable {X : Cx} {W : WX} {a b c : Expr} {F G : EF} {S T : TF} {pos : Pos} {rest : List Expr}
theorem ftru (ha : PEf X W a F) (he : ∀ whole, isTrue a X.env whole = (do let v ← whole; standAt a.pos; holding [v] (truthy v)) := by intro _; rfl) : PTf X W a (tTru F) := by
  refine imT (pt_truth ha he) fun σ H Q ⟨th, rho, env, ih, R, h⟩ => ?_
  refine ⟨th, rho, env, ih, R, Post.step h fun p ih1 th1 x H1 e1 C1 r1 h1 => ?_⟩
  cases e : trP ih1 p with
  | none => rw [e] at h1; exact h1.elim
  | some z => rw [e] at h1; exact ⟨z, tru_of C1 r1 e, h1.here C1 rfl⟩
theorem fw (h : PWf X W a T) : PTf X W a T := h.pt
theorem fwand1 (ha : PTf X W a T) : PWf X W (.BoolOp .And [a] pos) T := pw_and1 ha
theorem fwor1 (ha : PTf X W a T) : PWf X W (.BoolOp .Or [a] pos) T := pw_or1 ha
theorem fwand (ha : PTf X W a S) (hb : PWf X W (.BoolOp .And (b :: rest) pos) T) : PWf X W (.BoolOp .And (a :: b :: rest) pos) (tAndF S T) := by
  refine imW (pw_and ha hb) fun σ H Q ⟨th, rho, env, ih, R, h⟩ => ?_
  refine ⟨th, rho, env, ih, R, Post.step h fun p ih1 th1 x H1 e1 C1 r1 h1 => ?_⟩
  cases r1
  cases p with
  | true => exact (if_pos rfl).mpr ⟨th1, rho, env, ih1, R.next e1 C1, h1⟩
  | false => exact (if_neg Bool.false_ne_true).mpr (h1.here C1 rfl)
theorem fwor (ha : PTf X W a S) (hb : PWf X W (.BoolOp .Or (b :: rest) pos) T) : PWf X W (.BoolOp .Or (a :: b :: rest) pos) (tOrF S T) := by
  refine imW (pw_or ha hb) fun σ H Q ⟨th, rho, env, ih, R, h⟩ => ?_
  refine ⟨th, rho, env, ih, R, Post.step h fun p ih1 th1 x H1 e1 C1 r1 h1 => ?_⟩
  cases r1
  cases p with
  | false => exact (if_neg Bool.false_ne_true).mpr ⟨th1, rho, env, ih1, R.next e1 C1, h1⟩
  | true => exact (if_pos rfl).mpr (h1.here C1 rfl)
theorem fnotT (ha : PTf X W a T) : PTf X W (.UnaryOp .Not a pos) (tNotF T) := by
  refine imT (pt_not ha) fun σ H Q ⟨th, rho, env, ih, R, h⟩ => ?_
  refine ⟨th, rho, env, ih, R, Post.step h fun p ih1 th1 x H1 e1 C1 r1 h1 => ?_⟩
  cases r1
  exact h1.here C1 rfl
theorem fone {op} (h : PEf X W a F) : PEf X W (.BoolOp op [a] pos) F := pe_one h
theorem fand (ha : PEf X W a F) (hb : PEf X W (.BoolOp .And (b :: rest) pos) G) : PEf X W (.BoolOp .And (a :: b :: rest) pos) (eAnd F G) := by
  refine imE (pe_and ha hb) fun σ H Q ⟨th, rho, env, ih, R, h⟩ => ?_
  refine ⟨th, rho, env, ih, R, Post.step h fun p ih1 th1 x H1 e1 C1 r1 h1 => ?_⟩
  cases p <;> first | exact h1.elim | skip
  rename_i k
  cases r1
  refine ⟨k, rfl, ?_⟩
  cases k with
  | true => exact (if_pos rfl).mpr ⟨th1, rho, env, ih1, R.next e1 C1, h1⟩
  | false => exact (if_neg Bool.false_ne_true).mpr (h1.here C1 rfl)
theorem for_ (ha : PEf X W a F) (hb : PEf X W (.BoolOp .Or (b :: rest) pos) G) : PEf X W (.BoolOp .Or (a :: b :: rest) pos) (eOr F G) := by
  refine imE (pe_or ha hb) fun σ H Q ⟨th, rho, env, ih, R, h⟩ => ?_
  refine ⟨th, rho, env, ih, R, Post.step h fun p ih1 th1 x H1 e1 C1 r1 h1 => ?_⟩
  cases p <;> first | exact h1.elim | skip
  rename_i k
  cases r1
  refine ⟨k, rfl, ?_⟩
  cases k with
  | false => exact (if_neg Bool.false_ne_true).mpr ⟨th1, rho, env, ih1, R.next e1 C1, h1⟩
  | true => exact (if_pos rfl).mpr (h1.here C1 rfl)
theorem fnot (ha : PEf X W a F) : PEf X W (.UnaryOp .Not a pos) (eNot F) := by
  refine imE (pe_not ha) fun σ H Q ⟨th, rho, env, ih, R, h⟩ => ?_
  refine ⟨th, rho, env, ih, R, Post.step h fun p ih1 th1 x H1 e1 C1 r1 h1 => ?_⟩
  cases p <;> first | exact h1.elim | skip
  rename_i k
  cases r1
  exact ⟨k, rfl, h1.here C1 rfl⟩
theorem fif (hc : PTf X W c T) (ha : PEf X W a F) (hb : PEf X W b G) : PEf X W (.IfExp c a b pos) (eIf T F G) := by
  refine imE (pe_ifExp hc ha hb) fun σ H Q ⟨th, rho, env, ih, R, h⟩ => ?_
  refine ⟨th, rho, env, ih, R, Post.step h fun p ih1 th1 x H1 e1 C1 r1 h1 => ?_⟩
  cases r1
  cases p with
  | true => exact (if_pos rfl).mpr ⟨th1, rho, env, ih1, R.next e1 C1, h1⟩
  | false => exact (if_neg Bool.false_ne_true).mpr ⟨th1, rho, env, ih1, R.next e1 C1, h1⟩
end

/-! ### lists of arguments, displays -/
def aNil : AF := fun _ ih => .ok [] ih
def aCons (F : EF) (G : AF) : AF := fun env ih => (F env ih).bind fun p h => (G env h).bind fun ps h => .ok (p :: ps) h
def eTup (G : AF) : EF := fun env ih => (G env ih).bind fun ps h => if ps.length ≤ sizeLine then .ok (.tup ps) h else .bad
/-- a list that is never changed -/
def eLst (G : AF) : EF := fun env ih => (G env ih).bind fun ps h => if ps.length ≤ sizeLine then .ok (.lst ps) h else .bad
/-- a list that will be changed -/
def eNew (G : AF) : EF := fun env ih => (G env ih).bind fun ps h => if ps.length ≤ sizeLine then .ok (.ref h.length) (h ++ [.lst ps]) else .bad
section
variable {X : Cx} {W : WX} {e : Expr} {es : List Expr} {F : EF} {G : AF} {pos : Pos}
theorem anil : PAf X W [] aNil := imA pa_nil fun σ H Q ⟨th, rho, env, ih, R, h⟩ => h.here R.cells rfl
theorem acons (ha : PEf X W e F) (hr : PAf X W es G) (hs : starEach (e :: es) X.env = (false, eval e X.env) :: starEach es X.env := by rfl) : PAf X W (e :: es) (aCons F G) := by
  refine imA (pa_cons ha hr hs) fun σ H Q ⟨th, rho, env, ih, R, h⟩ => ?_
  refine ⟨th, rho, env, ih, R, Post.step h fun p ih1 th1 x H1 e1 C1 r1 h1 => ?_⟩
  refine ⟨th1, rho, env, ih1, R.next e1 C1, Post.step h1 fun ps ih2 th2 xs H2 e2 C2 r2 h2 => ?_⟩
  exact h2.here C2 ⟨x, xs, rfl, r1.next C1 e2, r2⟩
theorem ftup {x1} (h : PAf X W es G) : PEf X W (.Tuple es x1 pos) (eTup G) := by
  refine imE (pe_tup h) fun σ H Q ⟨th, rho, env, ih, R, h⟩ => ?_
  refine ⟨th, rho, env, ih, R, Post.step h fun ps ih1 th1 xs H1 e1 C1 r1 h1 => ?_⟩
  have hl := RepL.length r1
  by_cases hz : ps.length ≤ sizeLine
  · rw [if_pos hz] at h1
    refine ⟨by rw [← hl]; exact hz, fun p np => ?_⟩
    have e2 : Ext th1 H1 th1 (upd H1 p (.tup xs)) := ext_new np
    exact h1 th1 _ _ e2 (C1.new np) ⟨p, xs, rfl, .of upd_same, r1.next C1 e2⟩
  · rw [if_neg hz] at h1; exact h1.elim
theorem flst (h : PAf X W es G) : PEf X W (.List es pos) (eLst G) := by
  refine imE (pe_lst h) fun σ H Q ⟨th, rho, env, ih, R, h⟩ => ?_
  refine ⟨th, rho, env, ih, R, Post.step h fun ps ih1 th1 xs H1 e1 C1 r1 h1 => ?_⟩
  have hl := RepL.length r1
  by_cases hz : ps.length ≤ sizeLine
  · rw [if_pos hz] at h1
    refine ⟨by rw [← hl]; exact hz, fun p np => ?_⟩
    have e2 : Ext th1 H1 th1 (upd H1 p (.lst xs)) := ext_new np
    exact h1 th1 _ _ e2 (C1.new np) ⟨p, xs, rfl, ⟨upd_same, C1.nth np, C1.nrho np⟩, r1.next C1 e2⟩
  · rw [if_neg hz] at h1; exact h1.elim
theorem fnew (h : PAf X W es G) : PEf X W (.List es pos) (eNew G) := by
  refine imE (pe_lst h) fun σ H Q ⟨th, rho, env, ih, R, h⟩ => ?_
  refine ⟨th, rho, env, ih, R, Post.step h fun ps ih1 th1 xs H1 e1 C1 r1 h1 => ?_⟩
  have hl := RepL.length r1
  by_cases hz : ps.length ≤ sizeLine
  · rw [if_pos hz] at h1
    refine ⟨by rw [← hl]; exact hz, fun p np => ?_⟩
    have e2 : Ext th1 H1 (th1 ++ [p]) (upd H1 p (.lst xs)) := ext_cell np
    exact h1 _ _ _ e2 (C1.cellNew np ⟨xs, rfl, r1.next C1 e2⟩) ⟨p, rfl, by rw [← C1.len]; simp⟩
  · rw [if_neg hz] at h1; exact h1.elim
end
end PF

set_option Elab.async false
set_option linter.all false
set_option maxRecDepth 100000
set_option maxHeartbeats 1000000
/-! PF: operators, comparisons, subscripts, built-ins by values. -/
namespace PF
open PySem PySem.Spec PyProof.Rows L2

/-! ### data -/
def optAll {α β : Type} (f : α → Option β) : List α → Option (List β)
  | [] => some []
  | x :: xs => match f x with
    | some y => match optAll f xs with
      | some ys => some (y :: ys)
      | none => none
    | none => none
/-- the data that a value reads as, cells looked up -/
def dOf (ih : IH) : Nat → PV → Option PyData
  | _, .non => some .none
  | _, .bl b => some (.bool b)
  | _, .int i => some (.int i)
  | _, .str x => some (.str x)
  | n + 1, .tup xs => (optAll (dOf ih n) xs).map .tuple
  | n + 1, .lst xs => (optAll (dOf ih n) xs).map .list
  | n + 1, .scr xs => (optAll (dOf ih n) xs).map .list
  | n + 1, .ref m => match ih[m]? with
    | some (.lst xs) => (optAll (dOf ih n) xs).map .list
    | none => none
  | 0, _ => none
theorem optAll_cons {α β : Type} {f : α → Option β} {x : α} {xs : List α} {zs : List β} (h : optAll f (x :: xs) = some zs) : ∃ y ys, f x = some y ∧ optAll f xs = some ys ∧ zs = y :: ys := by
  unfold optAll at h
  cases e : f x with
  | none => rw [e] at h; cases h
  | some y =>
    rw [e] at h
    cases e2 : optAll f xs with
    | none => rw [e2] at h; cases h
    | some ys => rw [e2] at h; cases h; exact ⟨y, ys, rfl, rfl, rfl⟩
section
variable {K : PySem.W.Frag} {th rho : List Addr} {H : Hp} {ih : IH}
theorem dp_list {n : Nat} (go : ∀ (p : PV) (v : V) (d : PyData), Rep K th rho H p v → dOf ih n p = some d → Dp K H v d ∧ d.plain = true ∧ d.depth ≤ n + 1) :
    ∀ (ps : List PV) (vs : List V) (ds : List PyData), RepL K th rho H ps vs → optAll (dOf ih n) ps = some ds → DpAll K H vs ds ∧ PyData.plainAll ds = true ∧ PyData.depthAll ds ≤ n + 1
  | [], _, _, r, h => by cases r; cases h; exact ⟨.nil, by simp [PyData.plainAll], by simp [PyData.depthAll]⟩
  | p :: ps, _, _, ⟨v, vr, e, r, rs⟩, h => by
    subst e
    obtain ⟨d, ds, h1, h2, rfl⟩ := optAll_cons h
    obtain ⟨a1, a2, a3⟩ := go p v d r h1
    obtain ⟨b1, b2, b3⟩ := dp_list go ps vr ds rs h2
    refine ⟨.cons a1 b1, by simp [PyData.plainAll, a2, b2], ?_⟩
    simp only [PyData.depthAll]
    omega
theorem dp_of (C : CellsOk K th rho H ih) : ∀ (n : Nat) (p : PV) (v : V) (d : PyData), Rep K th rho H p v → dOf ih n p = some d → Dp K H v d ∧ d.plain = true ∧ d.depth ≤ n + 1
  | _, .non, _, _, r, h => by cases r; simp [dOf] at h; subst h; exact ⟨.non, rfl, by simp [PyData.depth]⟩
  | _, .bl _, _, _, r, h => by cases r; simp [dOf] at h; subst h; exact ⟨.bl _, rfl, by simp [PyData.depth]⟩
  | _, .int _, _, _, r, h => by cases r; simp [dOf] at h; subst h; exact ⟨.int _, rfl, by simp [PyData.depth]⟩
  | _, .str _, _, _, r, h => by cases r; simp [dOf] at h; subst h; exact ⟨.str _, rfl, by simp [PyData.depth]⟩
  | n + 1, .tup xs, _, d, ⟨a, ys, e, h1, h2⟩, h => by
    subst e
    simp only [dOf] at h
    cases e2 : optAll (dOf ih n) xs with
    | none => rw [e2] at h; cases h
    | some ds =>
      rw [e2] at h; cases h
      obtain ⟨q1, q2, q3⟩ := dp_list (dp_of C n) xs ys ds h2 e2
      exact ⟨.tup h1 q1, by simpa [PyData.plain] using q2, by simp only [PyData.depth]; omega⟩
  | n + 1, .lst xs, _, d, ⟨a, ys, e, h1, h2⟩, h => by
    subst e
    simp only [dOf] at h
    cases e2 : optAll (dOf ih n) xs with
    | none => rw [e2] at h; cases h
    | some ds =>
      rw [e2] at h; cases h
      obtain ⟨q1, q2, q3⟩ := dp_list (dp_of C n) xs ys ds h2 e2
      exact ⟨.lst (.of h1.1) q1, by simpa [PyData.plain] using q2, by simp only [PyData.depth]; omega⟩
  | n + 1, .scr xs, _, d, ⟨a, ys, e, h1, h2⟩, h => by
    subst e
    simp only [dOf] at h
    cases e2 : optAll (dOf ih n) xs with
    | none => rw [e2] at h; cases h
    | some ds =>
      rw [e2] at h; cases h
      obtain ⟨q1, q2, q3⟩ := dp_list (dp_of C n) xs ys ds h2 e2
      exact ⟨.lst h1.sq q1, by simpa [PyData.plain] using q2, by simp only [PyData.depth]; omega⟩
  | n + 1, .ref m, _, d, ⟨a, e, h1⟩, h => by
    subst e
    simp only [dOf] at h
    cases e3 : ih[m]? with
    | none => rw [e3] at h; cases h
    | some c =>
      cases c with
      | lst xs =>
        rw [e3] at h
        obtain ⟨ys, h4, h2⟩ := C.ref h1 e3
        simp only at h
        cases e2 : optAll (dOf ih n) xs with
        | none => rw [e2] at h; cases h
        | some ds =>
          rw [e2] at h; cases h
          obtain ⟨q1, q2, q3⟩ := dp_list (dp_of C n) xs ys ds h2 e2
          exact ⟨.lst (.of h4) q1, by simpa [PyData.plain] using q2, by simp only [PyData.depth]; omega⟩
  | 0, .tup _, _, _, _, h => by simp [dOf] at h
  | 0, .lst _, _, _, _, h => by simp [dOf] at h
  | 0, .scr _, _, _, _, h => by simp [dOf] at h
  | 0, .ref _, _, _, _, h => by simp [dOf] at h
end

/-- how deep data is looked at -/
abbrev dN : Nat := 40
def gEq : OpGB := fun ih p q => match dOf ih dN p, dOf ih dN q with
  | some d, some e => some (PyData.eqv d e)
  | _, _ => none
def gNe : OpGB := fun ih p q => (gEq ih p q).map (!·)
section
variable {X : Cx}
theorem op_data {op : CmpOp} {f : PyData → PyData → Bool} {g : OpGB} {k : Nat} (hr : Room k X.A) (hg : ∀ ih p q z, g ih p q = some z → ∃ d e, dOf ih dN p = some d ∧ dOf ih dN q = some e ∧ z = f d e)
    (rule : ∀ (s : Shared) (a b : Value) (d e : PyData) (as bs : List Addr) (Q : Value → Shared → Prop), Reads s.heap a d as → Reads s.heap b e bs → d.plain = true → e.plain = true → d.depth ≤ dN + 1 → e.depth ≤ dN + 1 → Q (.bool (f d e)) s →
      wpAny (model X.prog X.w) X.A (compareOp op a b) Q X.xe s) : OpF X (compareOp op) (bG g) := by
  refine ⟨fun x y H Q => ∃ d e, Dp X.K H x d ∧ Dp X.K H y e ∧ d.plain = true ∧ e.plain = true ∧ d.depth ≤ dN + 1 ∧ e.depth ≤ dN + 1 ∧ Q (.bl (f d e)) H, ?_, ?_⟩
  · intro pins s σ H x y v u Q I rx ry h
    obtain ⟨d, e, hd, he, p1, p2, l1, l2, q⟩ := h
    obtain ⟨as, r1⟩ := Dp.reads I d x v hd rx
    obtain ⟨bs, r2⟩ := Dp.reads I e y u he ry
    exact rule s v u d e as bs _ r1 r2 p1 p2 l1 l2 ⟨.bl _, H, I, rfl, q⟩
  · refine OpS.flat fun th rho H ih p q x y z Q C rp rq hz hQ => ?_
    unfold bG at hz
    cases e0 : g ih p q with
    | none => rw [e0] at hz; cases hz
    | some b =>
      rw [e0] at hz
      cases hz
      obtain ⟨d, e, h1, h2, rfl⟩ := hg _ _ _ _ e0
      obtain ⟨a1, a2, a3⟩ := dp_of C dN p x d rp h1
      obtain ⟨b1, b2, b3⟩ := dp_of C dN q y e rq h2
      exact ⟨d, e, a1, b1, a2, b2, a3, b3, hQ _ rfl⟩
theorem gEq_some {ih : IH} {p q : PV} {z : Bool} (h : gEq ih p q = some z) : ∃ d e, dOf ih dN p = some d ∧ dOf ih dN q = some e ∧ z = PyData.eqv d e := by
  unfold gEq at h
  cases e1 : dOf ih dN p with
  | none => rw [e1] at h; cases h
  | some d =>
    cases e2 : dOf ih dN q with
    | none => rw [e1, e2] at h; cases h
    | some e => rw [e1, e2] at h; cases h; exact ⟨d, e, rfl, rfl, rfl⟩
theorem o_eq {k : Nat} (hr : Room k X.A) : OpF X (compareOp .Eq) (bG gEq) := by
  refine op_data hr (f := PyData.eqv) (fun ih p q z h => gEq_some h) fun s a b d e as bs Q r1 r2 p1 p2 l1 l2 q => ?_
  have := hr.units
  have hd : dN = 40 := rfl
  exact SeqAt.eq_plain r1 r2 p1 p2 (by omega) q
theorem o_ne {k : Nat} (hr : Room k X.A) : OpF X (compareOp .NotEq) (bG gNe) := by
  refine op_data hr (f := fun d e => !PyData.eqv d e) (fun ih p q z h => ?_) fun s a b d e as bs Q r1 r2 p1 p2 l1 l2 q => ?_
  · unfold gNe at h
    cases e0 : gEq ih p q with
    | none => rw [e0] at h; cases h
    | some b =>
      rw [e0] at h; cases h
      obtain ⟨d, e, h1, h2, rfl⟩ := gEq_some e0
      exact ⟨d, e, h1, h2, rfl⟩
  · have := hr.units
    have hd : dN = 40 := rfl
    exact SeqAt.ne_plain r1 r2 p1 p2 (by omega) q
/-- the items of a list or tuple -/
def itemsD : PyData → Option (List PyData)
  | .list xs => some xs
  | .tuple xs => some xs
  | _ => none
def gInD : OpGB := fun ih p q => match dOf ih dN p, dOf ih dN q with
  | some d, some e => (itemsD e).map fun xs => xs.any fun y => PyData.eqv y d
  | _, _ => none
/-- one sign in a text -/
def gInS : OpGB := fun _ p q => match p, q with
  | .str c, .str z => match c.cps.toList with
    | [k] => some (decide (k ∈ z.cps.toList))
    | _ => none
  | _, _ => none
def inD (d e : PyData) : Bool := match itemsD e with
  | some xs => xs.any fun y => PyData.eqv y d
  | none => false
theorem o_inD' {k : Nat} (hr : Room k X.A) (neg : Bool) (g : OpGB) (hg : ∀ ih p q z, g ih p q = some z → ∃ y, gInD ih p q = some y ∧ z = (if neg then !y else y)) : OpF X (compareOp (if neg then .NotIn else .In)) (bG g) := by
  refine ⟨fun x y H Q => ∃ d e, Dp X.K H x d ∧ Dp X.K H y e ∧ d.plain = true ∧ e.plain = true ∧ d.depth ≤ dN + 1 ∧ e.depth ≤ dN + 1 ∧ (itemsD e).isSome = true ∧ Q (.bl (if neg then !inD d e else inD d e)) H, ?_, ?_⟩
  · intro pins s σ H x y v u Q I rx ry h
    obtain ⟨d, e, hd, he, p1, p2, l1, l2, hi, q⟩ := h
    obtain ⟨as, r1⟩ := Dp.reads I d x v hd rx
    obtain ⟨bs, r2⟩ := Dp.reads I e y u he ry
    have := hr.units
    have hd : dN = 40 := rfl
    cases e with
    | list xs =>
      have hp : PyData.plainAll xs = true := by simpa [PyData.plain] using p2
      have hu : X.A.units + 1 + min (PyData.depthAll xs) d.depth < cLine := by omega
      cases neg with
      | false => exact SeqAt.in_list_data r2 r1 hp p1 hu ⟨.bl _, H, I, rfl, q⟩
      | true => exact SeqAt.notIn_list_data r2 r1 hp p1 hu ⟨.bl _, H, I, rfl, q⟩
    | tuple xs =>
      have hp : PyData.plainAll xs = true := by simpa [PyData.plain] using p2
      have hu : X.A.units + 1 + min (PyData.depthAll xs) d.depth < cLine := by omega
      cases neg with
      | false => exact SeqAt.in_tuple_data r2 r1 hp p1 hu ⟨.bl _, H, I, rfl, q⟩
      | true => exact SeqAt.notIn_tuple_data r2 r1 hp p1 hu ⟨.bl _, H, I, rfl, q⟩
    | _ => cases hi
  · refine OpS.flat fun th rho H ih p q x y z Q C rp rq hz hQ => ?_
    unfold bG at hz
    cases e0 : g ih p q with
    | none => rw [e0] at hz; cases hz
    | some b =>
      rw [e0] at hz
      cases hz
      obtain ⟨b', e1, rfl⟩ := hg _ _ _ _ e0
      unfold gInD at e1
      cases e2 : dOf ih dN p with
      | none => rw [e2] at e1; cases e1
      | some d =>
        cases e3 : dOf ih dN q with
        | none => rw [e2, e3] at e1; cases e1
        | some e =>
          rw [e2, e3] at e1
          obtain ⟨a1, a2, a3⟩ := dp_of C dN p x d rp e2
          obtain ⟨b1, b2, b3⟩ := dp_of C dN q y e rq e3
          cases e4 : itemsD e with
          | none => simp only [e4] at e1; cases e1
          | some xs =>
            simp only [e4, Option.map_some, Option.some.injEq] at e1
            refine ⟨d, e, a1, b1, a2, b2, a3, b3, by rw [e4]; rfl, ?_⟩
            unfold inD
            rw [e4]
            subst e1
            exact hQ _ rfl
def gIn : OpGB := fun ih p q => match gInS ih p q with
  | some b => some b
  | none => gInD ih p q
def gNotIn : OpGB := fun ih p q => (gIn ih p q).map (!·)
theorem OpF.eqv {f : Value → Value → Sem Value} {g g' : OpG} (h : OpF X f g) (e : ∀ ih p q z, g' ih p q = some z → g ih p q = some z) : OpF X f g' :=
  let ⟨r, h1, h2⟩ := h
  ⟨r, h1, fun th rho H ih p q x y z Q C rp rq hz hQ => h2 th rho H ih p q x y z Q C rp rq (e _ _ _ _ hz) hQ⟩
theorem o_inS : OpF X (compareOp .In) (bG gInS) := by
  refine ⟨_, op_in_sign, OpS.flat fun th rho H ih p q x y z Q C rp rq hz hQ => ?_⟩
  unfold bG gInS at hz
  split at hz
  · rename_i c w
    cases rp; cases rq
    split at hz
    · rename_i k hk
      cases hz
      have e : c = ⟨#[k]⟩ := by
        cases c with
        | mk a => 
          have : a = #[k] := by
            apply Array.toList_inj.mp
            simpa using hk
          rw [this]
      subst e
      exact ⟨k, w, rfl, rfl, hQ _ rfl⟩
    · cases hz
  · cases hz
theorem o_notInS : OpF X (compareOp .NotIn) (bG fun ih p q => (gInS ih p q).map (!·)) := by
  refine ⟨_, op_notIn_sign, OpS.flat fun th rho H ih p q x y z Q C rp rq hz hQ => ?_⟩
  unfold bG at hz
  dsimp only at hz
  cases e0 : gInS ih p q with
  | none => rw [e0] at hz; cases hz
  | some b =>
    rw [e0] at hz
    cases hz
    unfold gInS at e0
    split at e0
    · rename_i c w
      cases rp; cases rq
      split at e0
      · rename_i k hk
        cases e0
        have e : c = ⟨#[k]⟩ := by
          cases c with
          | mk a => 
            have : a = #[k] := by
              apply Array.toList_inj.mp
              simpa using hk
            rw [this]
        subst e
        exact ⟨k, w, rfl, rfl, hQ _ rfl⟩
      · cases e0
    · cases e0
theorem o_in {k : Nat} (hr : Room k X.A) : OpF X (compareOp .In) (bG gIn) := by
  refine OpF.eqv (OpF.or o_inS (o_inD' hr false gInD fun ih p q z h => ⟨z, h, rfl⟩)) fun ih p q z h => ?_
  unfold bG gIn at h
  unfold orG bG
  cases e : gInS ih p q with
  | some b => rw [e] at h; exact h
  | none => rw [e] at h; exact h
theorem o_notIn {k : Nat} (hr : Room k X.A) : OpF X (compareOp .NotIn) (bG gNotIn) := by
  refine OpF.eqv (OpF.or o_notInS (o_inD' hr true (fun ih p q => (gInD ih p q).map (!·)) fun ih p q z h => ?_)) fun ih p q z h => ?_
  · cases e : gInD ih p q with
    | none => rw [e] at h; cases h
    | some y => rw [e] at h; cases h; exact ⟨y, rfl, rfl⟩
  · unfold bG gNotIn gIn at h
    unfold orG bG
    dsimp only
    cases e : gInS ih p q with
    | some b => rw [e] at h; exact h
    | none => rw [e] at h; exact h
end

/-! ### ints, texts -/
def gI2 (C : Int → Int → Bool) (f : Int → Int → Int) : OpG := fun _ p q => match p, q with
  | .int i, .int j => if C i j then some (.int (f i j)) else none
  | _, _ => none
def gCI (f : Int → Int → Bool) : OpGB := fun _ p q => match p, q with
  | .int i, .int j => some (f i j)
  | _, _ => none
section
variable {X : Cx}
theorem o_I2 {f : Value → Value → Sem Value} {C : Int → Int → Prop} {c : Int → Int → Bool} {g : Int → Int → Int} (h : OpR X f (rI C fun i j => .int (g i j))) (hc : ∀ i j, c i j = true → C i j) : OpF X f (gI2 c g) := by
  refine ⟨_, h, OpS.flat fun th rho H ih p q x y z Q Ce rp rq hz hQ => ?_⟩
  unfold gI2 at hz
  split at hz
  · cases rp; cases rq
    split at hz
    · rename_i hh; cases hz; exact ⟨_, _, rfl, rfl, hc _ _ hh, hQ _ rfl⟩
    · cases hz
  · cases hz
theorem o_I0 {f : Value → Value → Sem Value} {g : Int → Int → Int} (h : OpR X f (rI0 fun i j => .int (g i j))) : OpF X f (gI2 (fun _ _ => true) g) := by
  refine ⟨_, h, OpS.flat fun th rho H ih p q x y z Q Ce rp rq hz hQ => ?_⟩
  unfold gI2 at hz
  split at hz
  · cases rp; cases rq; rw [if_pos rfl] at hz; cases hz; exact ⟨_, _, rfl, rfl, hQ _ rfl⟩
  · cases hz
theorem o_CI {f : Value → Value → Sem Value} {g : Int → Int → Bool} (h : OpR X f (rI0 fun i j => .bl (g i j))) : OpF X f (bG (gCI g)) := by
  refine ⟨_, h, OpS.flat fun th rho H ih p q x y z Q Ce rp rq hz hQ => ?_⟩
  unfold bG gCI at hz
  split at hz
  · cases rp; cases rq; cases hz; exact ⟨_, _, rfl, rfl, hQ _ rfl⟩
  · cases hz
def gLt : OpGB := gCI fun i j => decide (i < j)
def gLe : OpGB := gCI fun i j => decide (i ≤ j)
def gGt : OpGB := gCI fun i j => decide (j < i)
def gGe : OpGB := gCI fun i j => decide (j ≤ i)
theorem o_lt : OpF X (compareOp .Lt) (bG gLt) := o_CI op_lt
theorem o_le : OpF X (compareOp .LtE) (bG gLe) := o_CI op_le
theorem o_gt : OpF X (compareOp .Gt) (bG gGt) := o_CI op_gt
theorem o_ge : OpF X (compareOp .GtE) (bG gGe) := o_CI op_ge
def gIs : OpGB := fun _ p q => match p, q with
  | .non, .non => some true
  | _, .non => some false
  | _, _ => none
def gIsNot : OpGB := fun ih p q => (gIs ih p q).map (!·)
theorem is_non {K th rho H} {p : PV} {x : V} {z : Bool} {ih : IH} {q : PV} {y : V} (rp : Rep K th rho H p x) (rq : Rep K th rho H q y) (h : gIs ih p q = some z) : y = .non ∧ decide (x = .non) = z := by
  cases q <;> first | (cases p <;> cases h) | skip
  all_goals try cases h
  all_goals cases rq
  all_goals refine ⟨rfl, ?_⟩
  · cases rp; rfl
  · cases rp; rfl
  · cases rp; rfl
  · cases rp; rfl
  · obtain ⟨a, xs, e, _⟩ := rp; subst e; rfl
  · obtain ⟨a, xs, e, _⟩ := rp; subst e; rfl
  · obtain ⟨a, xs, e, _⟩ := rp; subst e; rfl
  · obtain ⟨a, e, _⟩ := rp; subst e; rfl
theorem o_is : OpF X (compareOp .Is) (bG gIs) := by
  refine ⟨_, op_isN, OpS.flat fun th rho H ih p q x y z Q Ce rp rq hz hQ => ?_⟩
  unfold bG at hz
  cases e : gIs ih p q with
  | none => rw [e] at hz; cases hz
  | some b =>
    rw [e] at hz; cases hz
    obtain ⟨h1, h2⟩ := is_non rp rq e
    exact ⟨h1, by rw [h2]; exact hQ _ rfl⟩
theorem o_isNot : OpF X (compareOp .IsNot) (bG gIsNot) := by
  refine ⟨_, op_notN, OpS.flat fun th rho H ih p q x y z Q Ce rp rq hz hQ => ?_⟩
  unfold bG gIsNot at hz
  cases e : gIs ih p q with
  | none => rw [e] at hz; cases hz
  | some b =>
    rw [e] at hz; cases hz
    obtain ⟨h1, h2⟩ := is_non rp rq e
    exact ⟨h1, by rw [h2]; exact hQ _ rfl⟩

/-- the items of a list, changed or not -/
def lstOf (ih : IH) : PV → Option (List PV)
  | .lst xs => some xs
  | .ref n => match ih[n]? with
    | some (.lst xs) => some xs
    | none => none
  | _ => none
theorem lst_at {K th rho H} {ih : IH} (C : CellsOk K th rho H ih) {p : PV} {v : V} {ps : List PV} (r : Rep K th rho H p v) (h : lstOf ih p = some ps) : ∃ a xs, v = .ref a ∧ H a = some (.lst xs) ∧ RepL K th rho H ps xs := by
  cases p <;> first | (cases h; done) | skip
  · cases h
    obtain ⟨a, xs, e, h1, h2⟩ := r
    exact ⟨a, xs, e, h1.1, h2⟩
  · obtain ⟨a, e, h1⟩ := r
    simp only [lstOf] at h
    split at h
    · rename_i ys h2
      cases h
      obtain ⟨xs, h3, h4⟩ := C.ref h1 h2
      exact ⟨a, xs, e, h3, h4⟩
    · cases h
/-- the items of a list or a tuple -/
def seqOf (ih : IH) : PV → Option (List PV)
  | .tup xs => some xs
  | .scr xs => some xs
  | p => lstOf ih p
theorem seq_at {K th rho H} {ih : IH} (C : CellsOk K th rho H ih) {p : PV} {v : V} {ps : List PV} (r : Rep K th rho H p v) (h : seqOf ih p = some ps) : ∃ a xs, v = .ref a ∧ RepL K th rho H ps xs ∧ (SqL K H a xs ∨ SqT K H a xs) := by
  cases p <;> first | (cases h; done) | skip
  · cases h
    obtain ⟨a, xs, e, h1, h2⟩ := r
    exact ⟨a, xs, e, h2, .inr h1⟩
  · cases h
    obtain ⟨a, xs, e, h1, h2⟩ := r
    exact ⟨a, xs, e, h2, .inl (.of h1.1)⟩
  · cases h
    obtain ⟨a, xs, e, h1, h2⟩ := r
    exact ⟨a, xs, e, h2, .inl h1.sq⟩
  · obtain ⟨a, xs, e, h1, h2⟩ := lst_at C r h
    exact ⟨a, xs, e, h2, .inl (.of h1)⟩
def gAddS : OpG := fun _ p q => match p, q with
  | .str a, .str b => if a.length + b.length ≤ sizeLine then some (.str (a ++ b)) else none
  | _, _ => none
def gAddT : OpG := fun _ p q => match p, q with
  | .tup a, .tup b => if a.length + b.length ≤ sizeLine then some (.tup (a ++ b)) else none
  | _, _ => none
def gAddL : OpG := fun ih p q => match lstOf ih p, lstOf ih q with
  | some a, some b => if a.length + b.length ≤ sizeLine then some (.lst (a ++ b)) else none
  | _, _ => none
theorem o_addS : OpF X (binaryOp .Add) gAddS := by
  refine ⟨_, op_add_str, OpS.flat fun th rho H ih p q x y z Q Ce rp rq hz hQ => ?_⟩
  unfold gAddS at hz
  split at hz
  · cases rp; cases rq
    split at hz
    · rename_i hh; cases hz; exact ⟨_, _, rfl, rfl, hh, hQ _ rfl⟩
    · cases hz
  · cases hz
theorem o_addT : OpF X (binaryOp .Add) gAddT := by
  refine ⟨_, op_catA, fun th rho H ih p q x y z Q C rp rq hz hQ => ?_⟩
  unfold gAddT at hz
  split at hz
  · rename_i ps qs
    obtain ⟨a, xs, rfl, h1, h2⟩ := rp
    obtain ⟨b, ys, rfl, h3, h4⟩ := rq
    split at hz
    · rename_i hh
      cases hz
      refine ⟨a, b, xs, ys, rfl, rfl, h1, h3, by rw [← h2.length, ← h4.length]; exact hh, fun e => ?_, fun e e' => ?_, fun e e' => fun l nl => ?_⟩
      · subst e
        have : ps = [] := List.length_eq_zero_iff.mp h2.length
        subst this
        exact hQ _ H Ext.refl C ⟨b, ys, rfl, h3, h4⟩
      · subst e'
        have : qs = [] := List.length_eq_zero_iff.mp h4.length
        subst this
        rw [List.append_nil] at hQ
        exact hQ _ H Ext.refl C ⟨a, xs, rfl, h1, h2⟩
      · have e2 : Ext th H th (upd H l (.tup (xs ++ ys))) := ext_new nl
        exact hQ _ _ e2 (C.new nl) ⟨l, _, rfl, .of upd_same, (h2.append h4).next C e2⟩
    · cases hz
  · cases hz
theorem o_addL : OpF X (binaryOp .Add) gAddL := by
  refine ⟨_, op_cat, fun th rho H ih p q x y z Q C rp rq hz hQ => ?_⟩
  unfold gAddL at hz
  split at hz
  · rename_i ps qs h1 h2
    obtain ⟨a, xs, rfl, h3, h4⟩ := lst_at C rp h1
    obtain ⟨b, ys, rfl, h5, h6⟩ := lst_at C rq h2
    split at hz
    · rename_i hh
      cases hz
      refine ⟨a, b, xs, ys, rfl, rfl, h3, h5, by rw [← h4.length, ← h6.length]; exact hh, fun l nl => ?_⟩
      have e2 : Ext th H th (upd H l (.lst (xs ++ ys))) := ext_new nl
      exact hQ _ _ e2 (C.new nl) ⟨l, _, rfl, ⟨upd_same, C.nth nl, C.nrho nl⟩, (h4.append h6).next C e2⟩
    · cases hz
  · cases hz
def gAdd : OpG := orG (gI2 (fun _ _ => true) fun i j => i + j) (orG gAddS (orG gAddT gAddL))
def gSub : OpG := gI2 (fun _ _ => true) fun i j => i - j
theorem o_add : OpF X (binaryOp .Add) gAdd := (o_I0 op_add).or (o_addS.or (o_addT.or o_addL))
theorem o_sub : OpF X (binaryOp .Sub) gSub := o_I0 op_sub
def cMul (i j : Int) : Bool := decide (i.natAbs < 2 ^ 64 ∨ j.natAbs < 2 ^ 64)
def cDiv (_ j : Int) : Bool := decide (j ≠ 0 ∧ j.natAbs < 1073741824)
def cMod (_ j : Int) : Bool := decide (j ≠ 0)
def cPow (i j : Int) : Bool := decide (0 ≤ j ∧ j.natAbs ≤ 1000000 ∧ i.natAbs < 2 ^ 64)
def gMulI : OpG := gI2 cMul fun i j => i * j
def gDiv : OpG := gI2 cDiv fun i j => i.fdiv j
def gMod : OpG := gI2 cMod fun i j => i.fmod j
def gPow : OpG := gI2 cPow fun i j => i ^ j.toNat
theorem o_mulI : OpF X (binaryOp .Mult) gMulI := o_I2 op_mul fun i j h => by unfold CMul; unfold cMul at h; have h2 := of_decide_eq_true h; omega
theorem o_div : OpF X (binaryOp .FloorDiv) gDiv := o_I2 op_fdivN fun i j h => by unfold CDivN; unfold cDiv at h; exact of_decide_eq_true h
theorem o_mod : OpF X (binaryOp .Mod) gMod := o_I2 op_modN fun i j h => by unfold cMod at h; exact of_decide_eq_true h
theorem o_pow : OpF X (binaryOp .Pow) gPow := o_I2 op_pow fun i j h => by unfold CPow; unfold cPow at h; have h2 := of_decide_eq_true h; omega
end
end PF

set_option Elab.async false
set_option linter.all false
set_option maxRecDepth 100000
set_option maxHeartbeats 1000000
/-! PF: subscripts, slices, calls of built-ins, methods. -/
namespace PF
open PySem PySem.Spec PyProof.Rows L2

/-! ### subscripts -/
def IxF (X : Cx) (g : OpG) : Prop := ∃ r, IxR X r ∧ OpS X.K r g
theorem IxF.or {X : Cx} {g g' : OpG} : IxF X g → IxF X g' → IxF X (orG g g') := fun ⟨r, h1, h2⟩ ⟨r', h1', h2'⟩ => by
  refine ⟨_, h1.or h1', fun th rho H ih p q x y z Q C rp rq hz hQ => ?_⟩
  unfold orG at hz
  cases e : g ih p q with
  | some z' =>
    rw [e] at hz
    cases hz
    exact .inl (h2 th rho H ih p q x y _ Q C rp rq e hQ)
  | none =>
    rw [e] at hz
    exact .inr (h2' th rho H ih p q x y _ Q C rp rq hz hQ)
theorem fix {X : Cx} {W : WX} {a b : Expr} {F G : EF} {pos : Pos} {g : OpG} (ho : IxF X g) (ha : PEf X W a F) (hb : PEf X W b G) (hs : PlainIx b := by exact fun _ _ => rfl) : PEf X W (.Subscript a b pos) (eBin g F G) := by
  obtain ⟨r, hr, hs'⟩ := ho
  exact imE (pe_ix hr ha hb hs) fun σ H Q h => bin_step hs' h
theorem RepL.atI {K th rho H} {ps : List PV} {vs : List V} {i : Int} {p : PV} (r : RepL K th rho H ps vs) (h : atI ps i = some p) : ∃ v, L2.atI vs i = some v ∧ Rep K th rho H p v := by
  unfold L2.atI at h ⊢
  rw [← r.length]
  cases e : ixN ps.length i with
  | none => rw [e] at h; cases h
  | some j =>
    rw [e] at h
    exact r.get (i := j) h
def gIxQ : OpG := fun ih p q => match seqOf ih p, q with
  | some xs, .int i => atI xs i
  | _, _ => none
def gIxS : OpG := fun _ p q => match p, q with
  | .str z, .int i => if z.length ≤ sizeLine then (atI z.cps.toList i).map fun c => .str ⟨#[c]⟩ else none
  | _, _ => none
def gIx : OpG := orG gIxQ gIxS
section
variable {X : Cx}
theorem x_q : IxF X gIxQ := by
  refine ⟨_, ix_list.or ix_tup, OpS.flat fun th rho H ih p q x y z Q C rp rq hz hQ => ?_⟩
  unfold gIxQ at hz
  split at hz
  · rename_i xs i h1
    cases rq
    obtain ⟨a, vs, rfl, h2, h3⟩ := seq_at C rp h1
    obtain ⟨v, h4, h5⟩ := h2.atI hz
    rcases h3 with h3 | h3
    · exact .inl ⟨a, vs, i, v, rfl, rfl, h3, h4, hQ v h5⟩
    · exact .inr ⟨a, vs, i, v, rfl, rfl, h3, h4, hQ v h5⟩
  · cases hz
theorem x_s : IxF X gIxS := by
  refine ⟨_, ix_str, OpS.flat fun th rho H ih p q x y z Q C rp rq hz hQ => ?_⟩
  unfold gIxS at hz
  split at hz
  · rename_i w i
    cases rp; cases rq
    split at hz
    · rename_i hl
      cases e : atI w.cps.toList i with
      | none => rw [e] at hz; cases hz
      | some c => rw [e] at hz; cases hz; exact ⟨w, i, c, rfl, rfl, hl, e, hQ _ rfl⟩
    · cases hz
  · cases hz
theorem x_ix : IxF X gIx := x_q.or x_s
end

/-! ### slices -/
abbrev OFn := EnvP → IH → Res (Option Int)
def oNone : OFn := fun _ ih => .ok none ih
def intOf : PV → Option Int
  | .int i => some i
  | _ => none
def oSome (F : EF) : OFn := fun env ih => (F env ih).bind fun p h => ofOpt ((intOf p).map some) h
def tOf (K : PySem.W.Frag) (mg : Str → Option Value) (W : WX) (F : OFn) : TO := fun σ H Q => ∃ th rho env ih, RSt K th rho σ H env ih ∧ Post K mg th rho H (fun _ _ a b => a = b) Q (fun c d H' => W c d σ H') (F env ih)
abbrev POf (X : Cx) (W : WX) (e : Option Expr) (F : OFn) : Prop := PO X e (tOf X.K X.mg W F)
abbrev SlG := IH → PV → Option Int → Option Int → Option PV
def eSl (g : SlG) (F : EF) (lo hi : OFn) : EF := fun env ih => (F env ih).bind fun p h1 => (lo env h1).bind fun l h2 => (hi env h2).bind fun u h3 => ofOpt (g h3 p l u) h3
def cutP {α : Type} (xs : List α) (lo hi : Option Int) : List α := (xs.drop (HT.sIx xs.length 0 lo)).take (HT.sIx xs.length xs.length hi - HT.sIx xs.length 0 lo)
theorem RepL.cut {K th rho H} {ps : List PV} {vs : List V} (r : RepL K th rho H ps vs) (lo hi : Option Int) : RepL K th rho H (cutP ps lo hi) (cutV vs lo hi) := by
  unfold cutP cutV
  rw [r.length]
  exact (r.drop _).take _
def gSl : SlG := fun ih p lo hi => match p with
  | .tup xs => some (.tup (cutP xs lo hi))
  | .str z => if z.length ≤ sizeLine then some (.str (cutS z lo hi)) else none
  | .lst xs => some (.lst (cutP xs lo hi))
  | .scr xs => some (.lst (cutP xs lo hi))
  | .ref n => match ih[n]? with
    | some (.lst xs) => some (.lst (cutP xs lo hi))
    | none => none
  | _ => none
theorem cut_all {α : Type} {xs : List α} {lo hi : Option Int} (h : HT.sIx xs.length 0 lo = 0 ∧ HT.sIx xs.length xs.length hi = xs.length) : cutP xs lo hi = xs := by
  unfold cutP
  rw [h.1, h.2, Nat.sub_zero, List.drop_zero, List.take_length]
section
variable {X : Cx} {W : WX} {e : Expr} {lo hi : Option Expr} {F G : EF} {L U : OFn} {pos p2 : Pos}
theorem fonone : POf X W none oNone := by
  have h := po_none (X := X)
  refine ⟨fun pins s σ H Q I ⟨th, rho, env, ih, R, q⟩ => ?_⟩
  exact h.run pins s σ H Q I (q.here R.cells rfl)
theorem fosome (ha : PEf X W e F) : POf X W (some e) (oSome F) := by
  have h := po_some ha
  refine ⟨fun pins s σ H Q I ⟨th, rho, env, ih, R, q⟩ => ?_⟩
  refine h.run pins s σ H Q I ⟨th, rho, env, ih, R, Post.step q fun p ih1 th1 x H1 e1 C1 r1 h1 => ?_⟩
  cases p <;> first | exact h1.elim | skip
  cases r1
  exact ⟨_, rfl, h1.here C1 rfl⟩
theorem fsl (ha : PEf X W e F) (hl : POf X W lo L) (hu : POf X W hi U) : PEf X W (.Subscript e (.Slice lo hi none p2) pos) (eSl gSl F L U) := by
  refine imE (pe_slice ((sl_list (X := X)).or ((sl_tupA (X := X)).or sl_str)) ha hl hu) fun σ H Q ⟨th, rho, env, ih, R, h⟩ => ?_
  refine ⟨th, rho, env, ih, R, Post.step h fun p ih1 th1 x H1 e1 C1 r1 h1 => ?_⟩
  refine ⟨th1, rho, env, ih1, R.next e1 C1, Post.step h1 fun l ih2 th2 l' H2 e2 C2 r2 h2 => ?_⟩
  cases r2
  refine ⟨th2, rho, env, ih2, (R.next e1 C1).next e2 C2, Post.step h2 fun u ih3 th3 u' H3 e3 C3 r3 h3 => ?_⟩
  cases r3
  have rp := (r1.next C1 e2).next C2 e3
  have onL : ∀ {a : Addr} {ps : List PV} {xs : List V}, SqL X.K H3 a xs → RepL X.K th3 rho H3 ps xs → Post X.K X.mg th3 rho H3 (relV X.K rho) Q (fun c d H' => W c d σ H') (.ok (.lst (cutP ps l u)) ih3) → rSlL X.K (.ref a) l u H3 Q := fun {a ps xs} hs hr hp => by
    refine ⟨a, xs, rfl, hs, fun p np => ?_⟩
    have e4 : Ext th3 H3 th3 (upd H3 p (.lst (cutV xs l u))) := ext_new np
    exact hp th3 _ _ e4 (C3.new np) ⟨p, _, rfl, ⟨upd_same, C3.nth np, C3.nrho np⟩, (hr.cut l u).next C3 e4⟩
  cases p with
  | non => exact h3.elim
  | bl _ => exact h3.elim
  | int _ => exact h3.elim
  | str z =>
    cases rp
    by_cases hz : z.length ≤ sizeLine
    · simp only [gSl, if_pos hz, ofOpt_some] at h3
      exact .inr (.inr ⟨z, rfl, hz, h3.here C3 rfl⟩)
    · simp only [gSl, if_neg hz, ofOpt_none] at h3; exact h3.elim
  | tup ps =>
    obtain ⟨a, xs, rfl, h4, h5⟩ := rp
    refine .inr (.inl ⟨a, xs, rfl, h4, fun w => ?_, fun w p np => ?_⟩)
    · refine Post.here h3 C3 ⟨a, xs, rfl, h4, ?_⟩
      rw [← h5.length] at w
      rw [cut_all w]
      exact h5
    · have e4 : Ext th3 H3 th3 (upd H3 p (.tup (cutV xs l u))) := ext_new np
      exact h3 th3 _ _ e4 (C3.new np) ⟨p, _, rfl, .of upd_same, (h5.cut l u).next C3 e4⟩
  | lst ps =>
    obtain ⟨a, xs, rfl, h4, h5⟩ := rp
    exact .inl (onL (.of h4.1) h5 h3)
  | scr ps =>
    obtain ⟨a, xs, rfl, h4, h5⟩ := rp
    exact .inl (onL h4.sq h5 h3)
  | ref n =>
    obtain ⟨a, rfl, h4⟩ := rp
    cases e5 : ih3[n]? with
    | none => simp only [gSl, e5, ofOpt_none] at h3; exact h3.elim
    | some c =>
      cases c with
      | lst ps =>
        simp only [gSl, e5, ofOpt_some] at h3
        obtain ⟨xs, h6, h7⟩ := C3.ref h4 e5
        exact .inl (onL (.of h6) h7 h3)
end

/-! ### calls of built-ins -/
abbrev CaG := IH → List PV → Option PV
def CallS (K : PySem.W.Frag) (r : List V → Hp → VK → Prop) (g : CaG) : Prop :=
  ∀ (th rho : List Addr) (H : Hp) (ih : IH) (ps : List PV) (xs : List V) (z : PV) (Q : VK), CellsOk K th rho H ih → RepL K th rho H ps xs → g ih ps = some z →
    (∀ v H', Ext th H th H' → CellsOk K th rho H' ih → Rep K th rho H' z v → Q v H') → r xs H Q
theorem CallS.flat {K : PySem.W.Frag} {r : List V → Hp → VK → Prop} {g : CaG} (h : ∀ (th rho : List Addr) (H : Hp) (ih : IH) (ps : List PV) (xs : List V) (z : PV) (Q : VK), CellsOk K th rho H ih → RepL K th rho H ps xs → g ih ps = some z →
    (∀ v, Rep K th rho H z v → Q v H) → r xs H Q) : CallS K r g :=
  fun th rho H ih ps xs z Q C rp hz hQ => h th rho H ih ps xs z Q C rp hz fun v rv => hQ v H Ext.refl C rv
def CallF (X : Cx) (f : Value) (g : CaG) : Prop := ∃ r, CallR X f r ∧ CallS X.K r g
def orC (g g' : CaG) : CaG := fun ih ps => match g ih ps with
  | some z => some z
  | none => g' ih ps
theorem CallF.or {X : Cx} {f : Value} {g g' : CaG} : CallF X f g → CallF X f g' → CallF X f (orC g g') := fun ⟨r, h1, h2⟩ ⟨r', h1', h2'⟩ => by
  refine ⟨_, CallR.or h1 h1', fun th rho H ih ps xs z Q C rp hz hQ => ?_⟩
  unfold orC at hz
  cases e : g ih ps with
  | some z' =>
    rw [e] at hz
    cases hz
    exact .inl (h2 th rho H ih ps xs _ Q C rp e hQ)
  | none =>
    rw [e] at hz
    exact .inr (h2' th rho H ih ps xs _ Q C rp hz hQ)
def eCall (g : CaG) (A : AF) : EF := fun env ih => (A env ih).bind fun ps h => ofOpt (g h ps) h
section
variable {X : Cx} {W : WX} {x : Str} {p pos : Pos} {e : Expr} {es : List Expr} {A : AF} {id T : String} {g : CaG}
theorem cb_step {r : List V → Hp → VK → Prop} (hs : CallS X.K r g) {σ : L2.St} {H : Hp} {Q : VK} (h : tE X.K X.mg W (eCall g A) σ H Q) : tCB r (tA X.K X.mg W A) σ H Q := by
  obtain ⟨th, rho, env, ih, R, h⟩ := h
  refine ⟨th, rho, env, ih, R, Post.step h fun ps ih1 th1 xs H1 e1 C1 r1 h1 => ?_⟩
  cases e : g ih1 ps with
  | none => rw [e] at h1; exact h1.elim
  | some z =>
    rw [e] at h1
    exact hs th1 rho H1 ih1 ps xs z Q C1 r1 e fun v H' e' C' r' => h1 th1 v H' e' C' r'
theorem fcallB (hc : CallF X (.builtin id) g) (hg : Gl X x) (hm : X.mg x = none) (hv : bootBuiltins x = some (.builtin id)) (ha : PAf X W (e :: es) A) (hn : x ≠ "__name__" := by decide) (hdb : (x == ("__debug__" : Str)) = false := by decide)
    (he : starEach (e :: es) X.env = (false, eval e X.env) :: starEach es X.env := by rfl) (hpl : (backTo pos (starEach es X.env)).any (·.1) = false := by rfl) : PEf X W (.Call (.Name x p) (e :: es) [] pos) (eCall g A) := by
  obtain ⟨r, hr, hs⟩ := hc
  exact imE (pe_callB hr hg hm hv ha hn hdb he hpl) fun σ H Q h => cb_step hs h
theorem fcallTy (hc : CallF X (.type T) g) (hg : Gl X x) (hm : X.mg x = none) (hv : bootBuiltins x = some (.type T)) (ha : PAf X W (e :: es) A) (hn : x ≠ "__name__" := by decide) (hdb : (x == ("__debug__" : Str)) = false := by decide)
    (he : starEach (e :: es) X.env = (false, eval e X.env) :: starEach es X.env := by rfl) (hpl : (backTo pos (starEach es X.env)).any (·.1) = false := by rfl) : PEf X W (.Call (.Name x p) (e :: es) [] pos) (eCall g A) := by
  obtain ⟨r, hr, hs⟩ := hc
  exact imE (pe_callTy hr hg hm hv ha hn hdb he hpl) fun σ H Q h => cb_step hs h
end
theorem repl1 {K th rho H} {p : PV} {xs : List V} (r : RepL K th rho H [p] xs) : ∃ v, xs = [v] ∧ Rep K th rho H p v := by
  obtain ⟨v, vr, h1, h2, h3⟩ := r
  cases h3
  exact ⟨v, h1, h2⟩
theorem repl2 {K th rho H} {p q : PV} {xs : List V} (r : RepL K th rho H [p, q] xs) : ∃ v u, xs = [v, u] ∧ Rep K th rho H p v ∧ Rep K th rho H q u := by
  obtain ⟨v, vr, h1, h2, u, ur, h3, h4, h5⟩ := r
  cases h5
  exact ⟨v, u, by rw [h1, h3], h2, h4⟩
def gLen : CaG := fun ih ps => match ps with
  | [.str z] => if z.length ≤ sizeLine then some (.int z.length) else none
  | [p] => (seqOf ih p).map fun xs => .int xs.length
  | _ => none
def gAbs : CaG := fun _ ps => match ps with
  | [.int i] => some (.int (if i < 0 then -i else i))
  | _ => none
def gMax2 : CaG := fun _ ps => match ps with
  | [.int i, .int j] => some (.int (if j > i then j else i))
  | _ => none
def gMin2 : CaG := fun _ ps => match ps with
  | [.int i, .int j] => some (.int (if j < i then j else i))
  | _ => none
def gInt : CaG := fun _ ps => match ps with
  | [.int i] => some (.int i)
  | [.bl k] => some (.int (if k then 1 else 0))
  | _ => none
def gIntS : CaG := fun _ ps => match ps with
  | [.str a] => if a.length ≤ 640 then (PySem.intText? a).map .int else none
  | _ => none
def gStr : CaG := fun _ ps => match ps with
  | [.int i] => if i.natAbs.log2 < 1920 then some (.str (toString i)) else none
  | _ => none
def gStrS : CaG := fun _ ps => match ps with
  | [.str a] => some (.str a)
  | _ => none
def gList : CaG := fun ih ps => match ps with
  | [p] => (seqOf ih p).map .lst
  | _ => none
def gTuple : CaG := fun ih ps => match ps with
  | [.tup xs] => some (.tup xs)
  | [p] => (seqOf ih p).map .tup
  | _ => none
def intsOf : List PV → Option (List Int)
  | [] => some []
  | .int i :: ps => (intsOf ps).map (i :: ·)
  | _ => none
theorem ints_at {K th rho H} : ∀ {ps : List PV} {xs : List V} {ns : List Int}, RepL K th rho H ps xs → intsOf ps = some ns → xs = ns.map V.int
  | [], _, _, r, h => by cases r; cases h; rfl
  | p :: ps, _, ns, ⟨v, vr, e, r, rs⟩, h => by
    cases p <;> first | (cases h; done) | skip
    rename_i i
    simp only [intsOf] at h
    cases e2 : intsOf ps with
    | none => rw [e2] at h; cases h
    | some ms =>
      rw [e2] at h; cases h
      cases r
      rw [e, ints_at rs e2]
      rfl
theorem intsOf_map : ∀ ns : List Int, intsOf (ns.map PV.int) = some ns
  | [] => rfl
  | n :: ns => by simp [intsOf, intsOf_map ns]
/-- the ints of a list that stands in H or is read -/
def lintsOf (ih : IH) (p : PV) : Option (List Int) := match p with
  | .tup _ => none
  | p => match seqOf ih p with
    | some xs => intsOf xs
    | none => none
def gSum : CaG := fun ih ps => match ps with
  | [p] => (lintsOf ih p).map fun ns => .int ns.sum
  | _ => none
def listMax : List Int → Int
  | [] => 0
  | [x] => x
  | x :: xs => max x (listMax xs)
def listMin : List Int → Int
  | [] => 0
  | [x] => x
  | x :: xs => min x (listMin xs)
theorem listMax_spec : ∀ {ns : List Int} {m : Int}, m ∈ ns → (∀ y ∈ ns, y ≤ m) → listMax ns = m
  | [], _, h, _ => by cases h
  | [x], m, h, _ => by simp at h; simp [listMax, h]
  | x :: y :: ns, m, h, h2 => by
    show max x (listMax (y :: ns)) = m
    by_cases hm : m ∈ y :: ns
    · have e := listMax_spec hm fun z hz => h2 z (List.mem_cons_of_mem _ hz)
      rw [e]
      have := h2 x List.mem_cons_self
      omega
    · have hx : m = x := by
        rcases List.mem_cons.mp h with z | z
        · exact z
        · exact absurd z hm
      subst hx
      -- the greatest of the rest is at most m
      have hb : ∀ l : List Int, l ≠ [] → (∀ z ∈ l, z ≤ m) → listMax l ≤ m := by
        intro l
        induction l with
        | nil => intro h; exact absurd rfl h
        | cons a l ih =>
          intro _ hl
          cases l with
          | nil => exact hl a List.mem_cons_self
          | cons b l =>
            have h3 := ih (by simp) fun z hz => hl z (List.mem_cons_of_mem _ hz)
            have h4 := hl a List.mem_cons_self
            show max a (listMax (b :: l)) ≤ m
            omega
      have := hb (y :: ns) (by simp) fun z hz => h2 z (List.mem_cons_of_mem _ hz)
      omega
theorem listMin_spec : ∀ {ns : List Int} {m : Int}, m ∈ ns → (∀ y ∈ ns, m ≤ y) → listMin ns = m
  | [], _, h, _ => by cases h
  | [x], m, h, _ => by simp at h; simp [listMin, h]
  | x :: y :: ns, m, h, h2 => by
    show min x (listMin (y :: ns)) = m
    by_cases hm : m ∈ y :: ns
    · have e := listMin_spec hm fun z hz => h2 z (List.mem_cons_of_mem _ hz)
      rw [e]
      have := h2 x List.mem_cons_self
      omega
    · have hx : m = x := by
        rcases List.mem_cons.mp h with z | z
        · exact z
        · exact absurd z hm
      subst hx
      have hb : ∀ l : List Int, l ≠ [] → (∀ z ∈ l, m ≤ z) → m ≤ listMin l := by
        intro l
        induction l with
        | nil => intro h; exact absurd rfl h
        | cons a l ih =>
          intro _ hl
          cases l with
          | nil => exact hl a List.mem_cons_self
          | cons b l =>
            have h3 := ih (by simp) fun z hz => hl z (List.mem_cons_of_mem _ hz)
            have h4 := hl a List.mem_cons_self
            show m ≤ min a (listMin (b :: l))
            omega
      have := hb (y :: ns) (by simp) fun z hz => h2 z (List.mem_cons_of_mem _ hz)
      omega
def gMax : CaG := fun ih ps => match ps with
  | [p] => match lintsOf ih p with
    | some (n :: ns) => some (.int (listMax (n :: ns)))
    | _ => none
  | _ => none
def gMin : CaG := fun ih ps => match ps with
  | [p] => match lintsOf ih p with
    | some (n :: ns) => some (.int (listMin (n :: ns)))
    | _ => none
  | _ => none
/-- the ints in rising order -/
def insI (x : Int) : List Int → List Int
  | [] => [x]
  | y :: ys => if x ≤ y then x :: y :: ys else y :: insI x ys
def sortI : List Int → List Int
  | [] => []
  | x :: xs => insI x (sortI xs)
theorem insI_perm (x : Int) : ∀ ys : List Int, (insI x ys).Perm (x :: ys)
  | [] => .refl _
  | y :: ys => by
    unfold insI
    split
    · exact .refl _
    · exact ((insI_perm x ys).cons y).trans (.swap x y ys)
theorem insI_sorted (x : Int) : ∀ ys : List Int, ys.Pairwise (· ≤ ·) → (insI x ys).Pairwise (· ≤ ·)
  | [], _ => by simp [insI]
  | y :: ys, h => by
    unfold insI
    rw [List.pairwise_cons] at h
    split
    · rename_i hxy
      rw [List.pairwise_cons]
      refine ⟨fun z hz => ?_, List.pairwise_cons.mpr h⟩
      rcases List.mem_cons.mp hz with e | e
      · omega
      · have := h.1 z e; omega
    · rename_i hxy
      rw [List.pairwise_cons]
      refine ⟨fun z hz => ?_, insI_sorted x ys h.2⟩
      rcases List.mem_cons.mp ((insI_perm x ys).mem_iff.mp hz) with e | e
      · omega
      · exact h.1 z e
theorem sortI_perm : ∀ xs : List Int, (sortI xs).Perm xs
  | [] => .refl _
  | x :: xs => (insI_perm x (sortI xs)).trans ((sortI_perm xs).cons x)
theorem sortI_sorted : ∀ xs : List Int, (sortI xs).Pairwise (· ≤ ·)
  | [] => List.Pairwise.nil
  | x :: xs => insI_sorted x _ (sortI_sorted xs)
theorem sorted_uniq : ∀ {xs ys : List Int}, xs.Perm ys → xs.Pairwise (· ≤ ·) → ys.Pairwise (· ≤ ·) → xs = ys
  | [], ys, h, _, _ => (List.nil_perm.mp h).symm
  | x :: xs, [], h, _, _ => absurd h.symm (by simp)
  | x :: xs, y :: ys, h, h1, h2 => by
    have a := List.pairwise_cons.mp h1
    have b := List.pairwise_cons.mp h2
    have e : x = y := by
      have m1 : x ∈ y :: ys := h.mem_iff.mp List.mem_cons_self
      have m2 : y ∈ x :: xs := h.mem_iff.mpr List.mem_cons_self
      rcases List.mem_cons.mp m1 with z | z
      · exact z
      · rcases List.mem_cons.mp m2 with z2 | z2
        · exact z2.symm
        · have := b.1 x z
          have := a.1 y z2
          omega
    subst e
    rw [sorted_uniq ((List.perm_cons x).mp h) a.2 b.2]
def gSortedI : CaG := fun ih ps => match ps with
  | [p] => (lintsOf ih p).map fun ns => .lst ((sortI ns).map PV.int)
  | _ => none
theorem repL_ints {K th rho H} : ∀ ns : List Int, RepL K th rho H (ns.map PV.int) (ns.map V.int)
  | [] => rfl
  | n :: ns => ⟨_, _, rfl, rfl, repL_ints ns⟩
theorem repL_strs {K th rho H} : ∀ ns : List Str, RepL K th rho H (ns.map PV.str) (ns.map V.str)
  | [] => rfl
  | n :: ns => ⟨_, _, rfl, rfl, repL_strs ns⟩
theorem lints_at {K th rho H} {ih : IH} (C : CellsOk K th rho H ih) {p : PV} {v : V} {ns : List Int} (r : Rep K th rho H p v) (h : lintsOf ih p = some ns) : ∃ a, v = .ref a ∧ SqL K H a (ns.map V.int) := by
  cases p <;> first | (cases h; done) | skip
  all_goals
    unfold lintsOf at h
    simp only at h
    split at h
    · rename_i xs h1
      obtain ⟨a, vs, e, h2, h3⟩ := seq_at C r h1
      rw [ints_at h2 h] at h3
      rcases h3 with h3 | h3
      · exact ⟨a, e, h3⟩
      · first
          | (obtain ⟨b, ws, e', h4, _⟩ := r; rw [e] at e'; cases e'; exact ⟨a, e, .of (by
              obtain ⟨k1, k2⟩ := h4
              cases h1
              have := ints_at ‹RepL _ _ _ _ _ ws› h
              rw [← this]; exact k1)⟩)
          | (obtain ⟨b, ws, e', h4, h5⟩ := r; rw [e] at e'; cases e'; cases h1; have := ints_at h5 h; rw [← this]; exact ⟨a, e, h4.sq⟩)
          | (obtain ⟨a', xs', e', h4, h5⟩ := lst_at C r h1; rw [e] at e'; cases e'; have := ints_at h5 h; rw [← this]; exact ⟨a, e, .of h4⟩)
    · cases h
section
variable {X : Cx}
theorem c_len : CallF X (.builtin "len") gLen := by
  refine ⟨_, call_len, CallS.flat fun th rho H ih ps xs z Q C rp hz hQ => ?_⟩
  unfold gLen at hz
  split at hz
  · obtain ⟨v, rfl, r⟩ := repl1 rp
    cases r
    split at hz
    · rename_i w hl; cases hz; exact ⟨_, _, rfl, ⟨hl, rfl⟩, hQ _ rfl⟩
    · cases hz
  · rename_i p _
    obtain ⟨v, rfl, r⟩ := repl1 rp
    cases e : seqOf ih p with
    | none => rw [e] at hz; cases hz
    | some ys =>
      rw [e] at hz; cases hz
      obtain ⟨a, vs, rfl, h2, h3⟩ := seq_at C r e
      refine ⟨_, vs.length, rfl, ?_, by rw [← h2.length]; exact hQ _ rfl⟩
      rcases h3 with h3 | h3
      · exact .inl ⟨vs, h3, rfl⟩
      · exact .inr ⟨vs, h3, rfl⟩
  · cases hz
theorem c_abs : CallF X (.builtin "abs") gAbs := by
  refine ⟨_, call_abs, CallS.flat fun th rho H ih ps xs z Q C rp hz hQ => ?_⟩
  unfold gAbs at hz
  split at hz
  · obtain ⟨v, rfl, r⟩ := repl1 rp
    cases r; cases hz; exact ⟨_, rfl, hQ _ rfl⟩
  · cases hz
theorem c_max2 (hc : X.calm = true) : CallF X (.builtin "max") gMax2 := by
  refine ⟨_, call_max2 hc, CallS.flat fun th rho H ih ps xs z Q C rp hz hQ => ?_⟩
  unfold gMax2 at hz
  split at hz
  · obtain ⟨v, u, rfl, r, r'⟩ := repl2 rp
    cases r; cases r'; cases hz; exact ⟨_, _, rfl, hQ _ rfl⟩
  · cases hz
theorem c_min2 (hc : X.calm = true) : CallF X (.builtin "min") gMin2 := by
  refine ⟨_, call_min2 hc, CallS.flat fun th rho H ih ps xs z Q C rp hz hQ => ?_⟩
  unfold gMin2 at hz
  split at hz
  · obtain ⟨v, u, rfl, r, r'⟩ := repl2 rp
    cases r; cases r'; cases hz; exact ⟨_, _, rfl, hQ _ rfl⟩
  · cases hz
theorem c_max1 (hc : X.calm = true) : CallF X (.builtin "max") gMax := by
  refine ⟨_, cr_max hc, CallS.flat fun th rho H ih ps xs z Q C rp hz hQ => ?_⟩
  unfold gMax at hz
  split at hz
  · rename_i p
    obtain ⟨v, rfl, r⟩ := repl1 rp
    split at hz
    · rename_i n ns h1
      cases hz
      obtain ⟨a, rfl, h2⟩ := lints_at C r h1
      refine ⟨a, n :: ns, rfl, h2, by simp, fun m hm hle => ?_⟩
      rw [listMax_spec hm hle] at hQ
      exact hQ _ rfl
    · cases hz
  · cases hz
theorem c_min1 (hc : X.calm = true) : CallF X (.builtin "min") gMin := by
  refine ⟨_, cr_min hc, CallS.flat fun th rho H ih ps xs z Q C rp hz hQ => ?_⟩
  unfold gMin at hz
  split at hz
  · rename_i p
    obtain ⟨v, rfl, r⟩ := repl1 rp
    split at hz
    · rename_i n ns h1
      cases hz
      obtain ⟨a, rfl, h2⟩ := lints_at C r h1
      refine ⟨a, n :: ns, rfl, h2, by simp, fun m hm hle => ?_⟩
      rw [listMin_spec hm hle] at hQ
      exact hQ _ rfl
    · cases hz
  · cases hz
theorem c_sum (hc : X.calm = true) : CallF X (.builtin "sum") gSum := by
  refine ⟨_, cr_sum hc, CallS.flat fun th rho H ih ps xs z Q C rp hz hQ => ?_⟩
  unfold gSum at hz
  split at hz
  · rename_i p
    obtain ⟨v, rfl, r⟩ := repl1 rp
    cases e : lintsOf ih p with
    | none => rw [e] at hz; cases hz
    | some ns =>
      rw [e] at hz; cases hz
      obtain ⟨a, rfl, h2⟩ := lints_at C r e
      exact ⟨a, ns, rfl, h2, hQ _ rfl⟩
  · cases hz
theorem c_sortedI : CallF X (.builtin "sorted") gSortedI := by
  refine ⟨_, cr_sortedI, fun th rho H ih ps xs z Q C rp hz hQ => ?_⟩
  unfold gSortedI at hz
  split at hz
  · rename_i p
    obtain ⟨v, rfl, r⟩ := repl1 rp
    cases e : lintsOf ih p with
    | none => rw [e] at hz; cases hz
    | some ns =>
      rw [e] at hz; cases hz
      obtain ⟨a, rfl, h2⟩ := lints_at C r e
      refine ⟨a, ns, rfl, h2, fun ns' l hp hr nl => ?_⟩
      have e2 : ns' = sortI ns := sorted_uniq (hp.trans (sortI_perm ns).symm) hr (sortI_sorted ns)
      subst e2
      have e4 : Ext th H th (upd H l (.lst ((sortI ns).map V.int))) := ext_new nl
      exact hQ _ _ e4 (C.new nl) ⟨l, _, rfl, ⟨upd_same, C.nth nl, C.nrho nl⟩, repL_ints _⟩
  · cases hz
theorem c_int : CallF X (.type "int") gInt := by
  refine ⟨_, call_int1, CallS.flat fun th rho H ih ps xs z Q C rp hz hQ => ?_⟩
  unfold gInt at hz
  split at hz
  · obtain ⟨v, rfl, r⟩ := repl1 rp
    cases r; cases hz; exact .inl ⟨_, rfl, hQ _ rfl⟩
  · obtain ⟨v, rfl, r⟩ := repl1 rp
    cases r; cases hz; exact .inr ⟨_, rfl, hQ _ rfl⟩
  · cases hz
theorem c_intS : CallF X (.type "int") gIntS := by
  refine ⟨_, call_int_str, CallS.flat fun th rho H ih ps xs z Q C rp hz hQ => ?_⟩
  unfold gIntS at hz
  split at hz
  · rename_i a
    obtain ⟨v, rfl, r⟩ := repl1 rp
    cases r
    split at hz
    · rename_i hl
      cases e : PySem.intText? a with
      | none => rw [e] at hz; cases hz
      | some n => rw [e] at hz; cases hz; exact ⟨a, n, rfl, e, hl, hQ _ rfl⟩
    · cases hz
  · cases hz
theorem c_str : CallF X (.type "str") gStr := by
  refine ⟨_, call_str_int, CallS.flat fun th rho H ih ps xs z Q C rp hz hQ => ?_⟩
  unfold gStr at hz
  split at hz
  · obtain ⟨v, rfl, r⟩ := repl1 rp
    cases r
    split at hz
    · rename_i hl; cases hz; exact ⟨_, rfl, hl, hQ _ rfl⟩
    · cases hz
  · cases hz
theorem c_strS : CallF X (.type "str") gStrS := by
  refine ⟨_, SkE.call_str_str, CallS.flat fun th rho H ih ps xs z Q C rp hz hQ => ?_⟩
  unfold gStrS at hz
  split at hz
  · obtain ⟨v, rfl, r⟩ := repl1 rp
    cases r; cases hz; exact ⟨_, rfl, hQ _ rfl⟩
  · cases hz
theorem c_list : CallF X (.type "list") gList := by
  refine ⟨_, call_list_of, fun th rho H ih ps xs z Q C rp hz hQ => ?_⟩
  unfold gList at hz
  split at hz
  · rename_i p
    obtain ⟨v, rfl, r⟩ := repl1 rp
    cases e : seqOf ih p with
    | none => rw [e] at hz; cases hz
    | some ys =>
      rw [e] at hz; cases hz
      obtain ⟨a, vs, rfl, h2, h3⟩ := seq_at C r e
      refine ⟨a, vs, rfl, h3, fun l nl => ?_⟩
      have e4 : Ext th H th (upd H l (.lst vs)) := ext_new nl
      exact hQ _ _ e4 (C.new nl) ⟨l, _, rfl, ⟨upd_same, C.nth nl, C.nrho nl⟩, h2.next C e4⟩
  · cases hz
theorem c_tuple : CallF X (.type "tuple") gTuple := by
  refine ⟨_, call_tuple_of, fun th rho H ih ps xs z Q C rp hz hQ => ?_⟩
  unfold gTuple at hz
  split at hz
  · obtain ⟨v, rfl, r⟩ := repl1 rp
    cases hz
    obtain ⟨a, vs, rfl, h2, h3⟩ := r
    exact ⟨a, vs, rfl, .inr ⟨h2, hQ _ _ Ext.refl C ⟨a, vs, rfl, h2, h3⟩⟩⟩
  · rename_i p hp
    obtain ⟨v, rfl, r⟩ := repl1 rp
    cases e : seqOf ih p with
    | none => rw [e] at hz; cases hz
    | some ys =>
      rw [e] at hz; cases hz
      have hL : ∃ a vs, v = .ref a ∧ RepL X.K th rho H ys vs ∧ SqL X.K H a vs := by
        cases p with
        | tup q => exact absurd rfl (hp q)
        | lst q => cases e; obtain ⟨a, vs, h1, h2, h3⟩ := r; exact ⟨a, vs, h1, h3, .of h2.1⟩
        | scr q => cases e; obtain ⟨a, vs, h1, h2, h3⟩ := r; exact ⟨a, vs, h1, h3, h2.sq⟩
        | ref n => obtain ⟨a, vs, h1, h2, h3⟩ := lst_at C r e; exact ⟨a, vs, h1, h3, .of h2⟩
        | _ => cases e
      obtain ⟨a, vs, rfl, h2, h3⟩ := hL
      refine ⟨a, vs, rfl, .inl ⟨h3, fun l nl => ?_⟩⟩
      have e4 : Ext th H th (upd H l (.tup vs)) := ext_new nl
      exact hQ _ _ e4 (C.new nl) ⟨l, _, rfl, .of upd_same, h2.next C e4⟩
  · cases hz
end
/-- a new cell made by list(x) -/
def eListNew (A : AF) : EF := fun env ih => (A env ih).bind fun ps h => match ps with
  | [p] => match seqOf h p with
    | some xs => .ok (.ref h.length) (h ++ [.lst xs])
    | none => .bad
  | _ => .bad
theorem flistNew {X : Cx} {W : WX} {p pos : Pos} {e : Expr} {A : AF} (hg : Gl X "list") (hm : X.mg "list" = none) (ha : PAf X W [e] A)
    (he : starEach [e] X.env = (false, eval e X.env) :: starEach [] X.env := by rfl) : PEf X W (.Call (.Name "list" p) [e] [] pos) (eListNew A) := by
  refine imE (pe_callTy call_list_of hg hm PyProof.Rows.boot_list ha (by decide) (by decide) he (by rfl)) fun σ H Q ⟨th, rho, env, ih, R, h⟩ => ?_
  refine ⟨th, rho, env, ih, R, Post.step h fun ps ih1 th1 xs H1 e1 C1 r1 h1 => ?_⟩
  cases ps with
  | nil => exact h1.elim
  | cons p ps =>
    cases ps with
    | cons _ _ => exact h1.elim
    | nil =>
      obtain ⟨v, rfl, r⟩ := repl1 r1
      simp only at h1
      cases e : seqOf ih1 p with
      | none => rw [e] at h1; exact h1.elim
      | some ys =>
        rw [e] at h1
        obtain ⟨a, vs, rfl, h2, h3⟩ := seq_at C1 r e
        refine ⟨a, vs, rfl, h3, fun l nl => ?_⟩
        have e4 : Ext th1 H1 (th1 ++ [l]) (upd H1 l (.lst vs)) := ext_cell nl
        exact h1 _ _ _ e4 (C1.cellNew nl ⟨vs, rfl, h2.next C1 e4⟩) ⟨l, rfl, by rw [← C1.len]; simp⟩

/-! ### isinstance -/
def tyP : PV → String
  | .non => "NoneType" | .bl _ => "bool" | .int _ => "int" | .str _ => "str" | .tup _ => "tuple" | .lst _ => "list" | .scr _ => "list" | .ref _ => "list"
def isB (t T : String) : Bool := t == T || (t == "bool" && T == "int")
def eIsi (T : String) (F : EF) : EF := fun env ih => (F env ih).bind fun p h => .ok (.bl (isB (tyP p) T)) h
theorem ty_at {K th rho H} {ih : IH} (C : CellsOk K th rho H ih) {p : PV} {v : V} (r : Rep K th rho H p v) : TyX K H v (.type (tyP p)) := by
  cases p with
  | non => cases r; exact .base .non
  | bl b => cases r; exact .base (.bl b)
  | int i => cases r; exact .base (.int i)
  | str x => cases r; exact .base (.str x)
  | tup xs =>
    obtain ⟨a, ys, rfl, h1, _⟩ := r
    rcases h1 with (h1 | ⟨o, h1⟩) | ⟨o, its, n, h1, h2, _⟩
    · exact .base (.tup h1)
    · exact .fTuple h1
    · exact .kTuple h1 h2
  | lst xs => obtain ⟨a, ys, rfl, h1, _⟩ := r; exact .base (.lst h1.1)
  | scr xs =>
    obtain ⟨a, ys, rfl, h1, _⟩ := r
    rcases h1 with ⟨o, h1⟩ | ⟨o, its, n, h1, h2, _⟩
    · exact .base (.frz h1)
    · exact .kList h1 h2
  | ref n =>
    obtain ⟨a, rfl, h1⟩ := r
    obtain ⟨xs, h2⟩ := C.cell (List.mem_of_getElem? h1)
    exact .base (.lst h2)
def kitAll : Bool := ["NoneType", "bool", "int", "str", "tuple", "list"].all fun a => ["tuple", "int", "bool", "str", "list"].all fun b => kitB a b == some (isB a b)
theorem kit_all : kitAll = true := by decide +kernel
theorem kit_at (K : PySem.W.Frag) (p : PV) (T : String) (hT : T ∈ ["tuple", "int", "bool", "str", "list"]) : PySem.W.kitOne K (.type (tyP p)) (.type T) = some (isB (tyP p) T) := by
  apply kit_ty
  have h := kit_all
  unfold kitAll at h
  rw [List.all_eq_true] at h
  have h2 := h (tyP p) (by cases p <;> simp [tyP])
  rw [List.all_eq_true] at h2
  have h3 := h2 T hT
  exact eq_of_beq h3
theorem fisi {X : Cx} {W : WX} {p p2 pos : Pos} {e : Expr} {F : EF} {T : Str} {t : String} (hT : t ∈ ["tuple", "int", "bool", "str", "list"]) (hg : Gl X "isinstance") (hm : X.mg "isinstance" = none) (hg2 : Gl X T) (hm2 : X.mg T = none)
    (hv : bootBuiltins T = some (.type t)) (ha : PEf X W e F) (hn : T ≠ "__name__" := by decide) (hd : (T == ("__debug__" : Str)) = false := by decide)
    (he : starEach [e, .Name T p2] X.env = (false, eval e X.env) :: starEach [.Name T p2] X.env := by rfl) (he2 : starEach [.Name T p2] X.env = (false, eval (.Name T p2) X.env) :: starEach [] X.env := by rfl) (hp : (backTo pos (starEach [.Name T p2] X.env)).any (·.1) = false := by rfl) : PEf X W (.Call (.Name "isinstance" p) [e, .Name T p2] [] pos) (eIsi t F) := by
  refine imE (pe_callB call_isi hg hm PyProof.Rows.boot_isinstance (pa_cons ha (pa_cons (pe_bltn (v := .ty t) hg2 hm2 hv rfl hn hd) pa_nil he2) he) (by decide) (by decide) he hp) fun σ H Q ⟨th, rho, env, ih, R, h⟩ => ?_
  refine ⟨th, rho, env, ih, R, Post.step h fun q ih1 th1 x H1 e1 C1 r1 h1 => ?_⟩
  exact ⟨x, .ty t, _, _, _, rfl, .ty t, ty_at C1 r1, kit_at _ q t hT, h1.here C1 rfl⟩
end PF

set_option Elab.async false
set_option linter.all false
set_option maxRecDepth 100000
set_option maxHeartbeats 1000000
/-! PF: methods, targets, statements, loops, comprehensions. -/
namespace PF
open PySem PySem.Spec PyProof.Rows L2

/-! ### methods -/
abbrev MeG := IH → PV → List PV → Option (PV × IH)
def MeS (K : PySem.W.Frag) (r : V → List V → Hp → VK → Prop) (g : MeG) : Prop :=
  ∀ (th rho : List Addr) (H : Hp) (ih : IH) (p : PV) (ps : List PV) (x : V) (xs : List V) (z : PV) (ih' : IH) (Q : VK), CellsOk K th rho H ih → Rep K th rho H p x → RepL K th rho H ps xs → g ih p ps = some (z, ih') →
    (∀ v th' H', Ext th H th' H' → CellsOk K th' rho H' ih' → Rep K th' rho H' z v → Q v H') → r x xs H Q
def MeF (X : Cx) (id : String) (g : MeG) : Prop := ∃ r, MtR X id r ∧ MeS X.K r g
/-- the value is of the built-in type that the method belongs to -/
def isTy (T : String) (ih : IH) (p : PV) : Bool := match p with
  | .str _ => T == "str"
  | .int _ => T == "int"
  | .lst _ => T == "list"
  | .scr _ => T == "list"
  | .ref n => T == "list" && (ih[n]?).isSome
  | _ => false
theorem isTy_at {K th rho H} {ih : IH} {T : String} {p : PV} {v : V} (C : CellsOk K th rho H ih) (r : Rep K th rho H p v) (h : isTy T ih p = true) : tyV K T v H := by
  cases p with
  | non => cases h
  | bl _ => cases h
  | tup _ => cases h
  | int i => cases r; exact eq_of_beq h
  | str i => cases r; exact eq_of_beq h
  | lst xs => obtain ⟨a, ys, rfl, h1, _⟩ := r; exact .inl ⟨eq_of_beq h, ys, .of h1.1⟩
  | scr xs => obtain ⟨a, ys, rfl, h1, _⟩ := r; exact .inl ⟨eq_of_beq h, ys, h1.sq⟩
  | ref n =>
    obtain ⟨a, rfl, h1⟩ := r
    obtain ⟨xs, h2⟩ := C.cell (List.mem_of_getElem? h1)
    have h' := (Bool.and_eq_true_iff.mp h).1
    exact .inl ⟨eq_of_beq h', xs, .of h2⟩
def eMe (T : String) (g : MeG) (F : EF) (A : AF) : EF := fun env ih => (F env ih).bind fun p h1 => if isTy T h1 p then (A env h1).bind fun ps h2 => match g h2 p ps with
  | some (z, h3) => .ok z h3
  | none => .bad
  else .bad
def eMe0 (T : String) (g : MeG) (F : EF) : EF := fun env ih => (F env ih).bind fun p h1 => if isTy T h1 p then match g h1 p [] with
  | some (z, h3) => .ok z h3
  | none => .bad
  else .bad
section
variable {X : Cx} {W : WX} {o e : Expr} {es : List Expr} {F : EF} {A : AF} {name : Str} {apos cpos : Pos} {T id : String} {g : MeG}
theorem fme (pa : PlainAttrs T) (slot : Slot T name id) (hty : typeOf (.builtin id) = pure (.type "method_descriptor")) (hm : MeF X id g) (ho : PEf X W o F) (ha : PAf X W (e :: es) A)
    (hbase : attributeBase o name X.env (eval o X.env) = eval o X.env := by rfl)
    (hfew : ((backTo cpos (starEach (e :: es) X.env)).all (fun x => !x.1) && (backToKw cpos (keywordEach [] X.env)).all (fun x => x.1.isSome)
      && decide ((e :: es).length + ([] : List Keyword).length + (if ([] : List Keyword).isEmpty then 0 else 1) < 30)) = true := by rfl)
    (hline : (apos.endLine == cpos.line) = true := by rfl) (hs : starEach (e :: es) X.env = (false, eval e X.env) :: starEach es X.env := by rfl) (hplain : (backTo cpos (starEach es X.env)).any (·.1) = false := by rfl) :
    PEf X W (.Call (.Attribute o name apos) (e :: es) [] cpos) (eMe T g F A) := by
  obtain ⟨r, hr, hs'⟩ := hm
  refine imE (pe_bm pa slot hty hr ho ha hbase hfew hline hs hplain) fun σ H Q ⟨th, rho, env, ih, R, h⟩ => ?_
  refine ⟨th, rho, env, ih, R, Post.step h fun p ih1 th1 x H1 e1 C1 r1 h1 => ?_⟩
  by_cases ht : isTy T ih1 p = true
  · rw [if_pos ht] at h1
    refine ⟨isTy_at C1 r1 ht, th1, rho, env, ih1, R.next e1 C1, Post.step h1 fun ps ih2 th2 xs H2 e2 C2 r2 h2 => ?_⟩
    cases e3 : g ih2 p ps with
    | none => rw [e3] at h2; exact h2.elim
    | some w =>
      obtain ⟨z, ih3⟩ := w
      rw [e3] at h2
      exact hs' th2 rho H2 ih2 p ps x xs z ih3 Q C2 (r1.next C1 e2) r2 e3 fun v th' H' e' C' r' => h2 th' v H' e' C' r'
  · rw [if_neg ht] at h1; exact h1.elim
theorem fme0 (pa : PlainAttrs T) (slot : Slot T name id) (hty : typeOf (.builtin id) = pure (.type "method_descriptor")) (hm : MeF X id g) (ho : PEf X W o F)
    (hbase : attributeBase o name X.env (eval o X.env) = eval o X.env := by rfl) (hline : (apos.endLine == cpos.line) = true := by rfl) : PEf X W (.Call (.Attribute o name apos) [] [] cpos) (eMe0 T g F) := by
  obtain ⟨r, hr, hs'⟩ := hm
  refine imE (pe_bm0 pa slot hty hr ho hbase hline) fun σ H Q ⟨th, rho, env, ih, R, h⟩ => ?_
  refine ⟨th, rho, env, ih, R, Post.step h fun p ih1 th1 x H1 e1 C1 r1 h1 => ?_⟩
  by_cases ht : isTy T ih1 p = true
  · rw [if_pos ht] at h1
    refine ⟨isTy_at C1 r1 ht, ?_⟩
    cases e3 : g ih1 p [] with
    | none => rw [e3] at h1; exact h1.elim
    | some w =>
      obtain ⟨z, ih3⟩ := w
      rw [e3] at h1
      exact hs' th1 rho H1 ih1 p [] x [] z ih3 Q C1 r1 rfl e3 fun v th' H' e' C' r' => h1 th' v H' e' C' r'
  · rw [if_neg ht] at h1; exact h1.elim
end
def gAppend : MeG := fun ih p ps => match p, ps with
  | .ref n, [q] => match ih[n]? with
    | some (.lst xs) => if xs.length < sizeLine then some (.non, ih.set n (.lst (xs ++ [q]))) else none
    | none => none
  | _, _ => none
def gPopAt : MeG := fun ih p ps => match p, ps with
  | .ref n, [.int i] => match ih[n]? with
    | some (.lst xs) => if 0 ≤ i ∧ i.natAbs < 2 ^ 63 then match xs[i.toNat]? with
      | some y => some (y, ih.set n (.lst (xs.eraseIdx i.toNat)))
      | none => none
      else none
    | none => none
  | _, _ => none
def gSplit : MeG := fun ih p ps => match p, ps with
  | .str a, [.str b] => if (b.length == 0) = false ∧ a.length + 2 ≤ sizeLine then some (.lst ((Txt.split a b).map PV.str), ih) else none
  | _, _ => none
def strsOf : List PV → Option (List Str)
  | [] => some []
  | .str x :: ps => (strsOf ps).map (x :: ·)
  | _ => none
theorem strs_at {K th rho H} : ∀ {ps : List PV} {xs : List V} {ns : List Str}, RepL K th rho H ps xs → strsOf ps = some ns → xs = ns.map V.str
  | [], _, _, r, h => by cases r; cases h; rfl
  | p :: ps, _, ns, ⟨v, vr, e, r, rs⟩, h => by
    cases p <;> first | (cases h; done) | skip
    rename_i i
    simp only [strsOf] at h
    cases e2 : strsOf ps with
    | none => rw [e2] at h; cases h
    | some ms =>
      rw [e2] at h; cases h
      cases r
      rw [e, strs_at rs e2]
      rfl
theorem strsOf_map : ∀ ns : List Str, strsOf (ns.map PV.str) = some ns
  | [] => rfl
  | n :: ns => by simp [strsOf, strsOf_map ns]
def gJoin : MeG := fun ih p ps => match p, ps with
  | .str a, [q] => match seqOf ih q with
    | some xs => match strsOf xs with
      | some ys => if (ys.map (·.length)).sum + ys.length * a.length ≤ 16777216 then some (.str (Txt.join a ys), ih) else none
      | none => none
    | none => none
  | _, _ => none
section
variable {X : Cx}
theorem m_append : MeF X "list.append" gAppend := by
  refine ⟨_, mt_append, fun th rho H ih p ps x xs z ih' Q C rp rs hz hQ => ?_⟩
  unfold gAppend at hz
  split at hz
  · rename_i n q
    obtain ⟨a, rfl, h1⟩ := rp
    obtain ⟨y, rfl, r⟩ := repl1 rs
    split at hz
    · rename_i zs h2
      split at hz
      · rename_i hl
        cases hz
        obtain ⟨vs, h3, h4⟩ := C.ref h1 h2
        refine ⟨a, vs, y, rfl, rfl, h3, by rw [← h4.length]; exact hl, ?_⟩
        have e := ext_set (o := .lst (vs ++ [y])) (H := H) h1
        exact hQ _ th _ e (C.cellSet h1 ⟨_, rfl, (h4.append (show RepL X.K th rho H [q] [y] from ⟨y, [], rfl, r, rfl⟩)).next C e⟩) rfl
      · cases hz
    · cases hz
  · cases hz
theorem eraseL {K th rho H} : ∀ {ps : List PV} {vs : List V} (i : Nat), RepL K th rho H ps vs → RepL K th rho H (ps.eraseIdx i) (vs.eraseIdx i)
  | [], _, _, h => by cases h; exact rfl
  | _ :: _, _, 0, ⟨v, vr, h1, _, h3⟩ => by subst h1; exact h3
  | _ :: _, _, i + 1, ⟨v, vr, h1, h2, h3⟩ => by subst h1; exact ⟨v, _, rfl, h2, eraseL i h3⟩
theorem m_popAt : MeF X "list.pop" gPopAt := by
  refine ⟨_, mt_popAt, fun th rho H ih p ps x xs z ih' Q C rp rs hz hQ => ?_⟩
  unfold gPopAt at hz
  split at hz
  · rename_i n i
    obtain ⟨a, rfl, h1⟩ := rp
    obtain ⟨y, rfl, r⟩ := repl1 rs
    cases r
    split at hz
    · rename_i zs h2
      split at hz
      · rename_i hi
        split at hz
        · rename_i w h5
          cases hz
          obtain ⟨vs, h3, h4⟩ := C.ref h1 h2
          obtain ⟨y, h6, h7⟩ := h4.get h5
          have hlt : i.toNat < vs.length := (List.getElem?_eq_some_iff.mp h6).1
          refine ⟨a, vs, i, i.toNat, y, rfl, rfl, h3, by omega, by omega, ?_, h6, ?_⟩
          · exact PySem.StrLaws.seqIndex_nonneg hi.1 (by omega)
          · have e := ext_set (o := .lst (vs.eraseIdx i.toNat)) (H := H) h1
            exact hQ _ th _ e (C.cellSet h1 ⟨_, rfl, (eraseL _ h4).next C e⟩) (h7.next C e)
        · cases hz
      · cases hz
    · cases hz
  · cases hz
theorem m_split : MeF X "str.split" gSplit := by
  refine ⟨_, mt_split, fun th rho H ih p ps x xs z ih' Q C rp rs hz hQ => ?_⟩
  unfold gSplit at hz
  split at hz
  · rename_i a b
    cases rp
    obtain ⟨y, rfl, r⟩ := repl1 rs
    cases r
    split at hz
    · rename_i hc
      cases hz
      refine ⟨a, b, rfl, rfl, hc.1, hc.2, fun l nl => ?_⟩
      have e4 : Ext th H th (upd H l (.lst ((Txt.split a b).map V.str))) := ext_new nl
      exact hQ _ th _ e4 (C.new nl) ⟨l, _, rfl, ⟨upd_same, C.nth nl, C.nrho nl⟩, repL_strs _⟩
    · cases hz
  · cases hz
theorem m_join : MeF X "str.join" gJoin := by
  refine ⟨_, mt_join, fun th rho H ih p ps x xs z ih' Q C rp rs hz hQ => ?_⟩
  unfold gJoin at hz
  split at hz
  · rename_i a q
    cases rp
    obtain ⟨y, rfl, r⟩ := repl1 rs
    split at hz
    · rename_i qs h1
      split at hz
      · rename_i ys h2
        split at hz
        · rename_i hl
          cases hz
          obtain ⟨b, vs, rfl, h3, h4⟩ := seq_at C r h1
          rw [strs_at h3 h2] at h4
          exact ⟨a, b, ys, rfl, rfl, h4, hl, hQ _ th H Ext.refl C rfl⟩
        · cases hz
      · cases hz
    · cases hz
  · cases hz
end

/-! ### what is wanted behind a statement -/
def PostS (K : PySem.W.Frag) (mg : Str → Option Value) (th rho : List Addr) (H : Hp) (W : WX) (D : Ends) : SRes → Prop
  | .next env' ih' => ∀ th' σ' H', Ext th H th' H' → RSt K th' rho σ' H' env' ih' → D.nx σ' H'
  | .brk env' ih' => ∀ th' σ' H', Ext th H th' H' → RSt K th' rho σ' H' env' ih' → D.bk σ' H'
  | .cont env' ih' => ∀ th' σ' H', Ext th H th' H' → RSt K th' rho σ' H' env' ih' → D.ct σ' H'
  | .ret p ih' => ∀ th' v H', Ext th H th' H' → CellsOk K th' rho H' ih' → Rep K th' rho H' p v → D.rt v H'
  | .ex x env' ih' => ∀ th' σ' c d H', Ext th H th' H' → RSt K th' rho σ' H' env' ih' → ExR K mg x c d th' rho H' → W c d σ' H'
  | .bad => False
def tS (K : PySem.W.Frag) (mg : Str → Option Value) (W : WX) (F : SF) : TS := fun D σ H => ∃ th rho env ih, RSt K th rho σ H env ih ∧ PostS K mg th rho H W D (F env ih)
abbrev PSf (X : Cx) (W : WX) (s : Stmt) (F : SF) : Prop := PS X s (tS X.K X.mg W F)
abbrev PSsf (X : Cx) (W : WX) (s : List Stmt) (F : SF) : Prop := PSs X s (tS X.K X.mg W F)
section
variable {X : Cx}
theorem imS {e : Stmt} {t t' : TS} (h : PS X e t) (i : ∀ D σ H, t' D σ H → t D σ H) : PS X e t' := ⟨fun pins s σ H D I q => h.run pins s σ H D I (i _ _ _ q)⟩
theorem imSs {e : List Stmt} {t t' : TS} (h : PSs X e t) (i : ∀ D σ H, t' D σ H → t D σ H) : PSs X e t' := ⟨fun pins s σ H D I q => h.run pins s σ H D I (i _ _ _ q)⟩
end
def Res.bindS {α : Type} (r : Res α) (env : EnvP) (f : α → IH → SRes) : SRes := match r with
  | .ok a h => f a h
  | .ex x h => .ex x env h
  | .bad => .bad
@[simp] theorem Res.bindS_ok {α : Type} (a : α) (h : IH) (env : EnvP) (f : α → IH → SRes) : (Res.ok a h).bindS env f = f a h := rfl
@[simp] theorem Res.bindS_bad {α : Type} (env : EnvP) (f : α → IH → SRes) : (Res.bad : Res α).bindS env f = .bad := rfl
@[simp] theorem Res.bindS_ex {α : Type} (x : PX) (h : IH) (env : EnvP) (f : α → IH → SRes) : (Res.ex x h : Res α).bindS env f = .ex x env h := rfl
section
variable {α β : Type} {K : PySem.W.Frag} {mg : Str → Option Value} {th th1 rho : List Addr} {σ : L2.St} {H H1 : Hp} {W : WX} {D : Ends} {rel : List Addr → Hp → α → β → Prop} {Q : β → Hp → Prop} {env : EnvP} {ih : IH}
theorem PostS.shift {r : SRes} (h : PostS K mg th rho H W D r) (e : Ext th H th1 H1) : PostS K mg th1 rho H1 W D r := by
  cases r with
  | next a i => exact fun th' b H' e' R => h th' b H' (e.trans e') R
  | brk a i => exact fun th' b H' e' R => h th' b H' (e.trans e') R
  | cont a i => exact fun th' b H' e' R => h th' b H' (e.trans e') R
  | ret p i => exact fun th' v H' e' C r => h th' v H' (e.trans e') C r
  | ex x e2 i => exact fun th' s c d H' e' R r => h th' s c d H' (e.trans e') R r
  | bad => exact h
theorem PostS.step {r : Res α} {f : α → IH → SRes} (R : RSt K th rho σ H env ih) (h : PostS K mg th rho H W D (r.bindS env f))
    (k : ∀ a ih1 th1 b H1, Ext th H th1 H1 → CellsOk K th1 rho H1 ih1 → rel th1 H1 a b → PostS K mg th1 rho H1 W D (f a ih1) → Q b H1) : Post K mg th rho H rel Q (fun c d H' => W c d σ H') r := by
  cases r with
  | ok a i => exact fun th' b H' e' C r => k a i th' b H' e' C r (PostS.shift h e')
  | ex x i => exact fun th' c d H' e' C r => h th' σ c d H' e' (R.next e' C) r
  | bad => exact h
end

/-! ### blocks, small statements -/
def sNext : SF := fun env ih => .next env ih
def sSeq (F G : SF) : SF := fun env ih => match F env ih with
  | .next e h => G e h
  | r => r
def sIf (T : TF) (F G : SF) : SF := fun env ih => (T env ih).bindS env fun b h => if b then F env h else G env h
def sExpr (F : EF) : SF := fun env ih => (F env ih).bindS env fun _ h => .next env h
def sRet (F : EF) : SF := fun env ih => (F env ih).bindS env fun p h => .ret p h
def sRetN : SF := fun _ ih => .ret .non ih
def sBad : SF := fun _ _ => .bad
def sBrk : SF := fun env ih => .brk env ih
def sCont : SF := fun env ih => .cont env ih
def sSet (i : Nat) (F : EF) : SF := fun env ih => (F env ih).bindS env fun p h => .next (env.set i (some p)) h
def sAug (i : Nat) (g : OpG) (F : EF) : SF := fun env ih => (eVar i env ih).bindS env fun p h0 => (F env h0).bindS env fun q h => (ofOpt (g h p q) h).bindS env fun z h' => .next (env.set i (some z)) h'
section
variable {X : Cx} {W : WX} {st : Stmt} {rest : List Stmt} {F G : SF} {E : EF} {T : TF} {e : Expr} {pos : Pos}
theorem RSt.set {K th rho σ H} {env : EnvP} {ih : IH} {i : Nat} {p : PV} {v : V} (C : CellsOk K th rho H ih) (e : EnvOk K th rho H env σ) (r : Rep K th rho H p v) : RSt K th rho (σ.set i (some v)) H (env.set i (some p)) ih := ⟨C, e.set r⟩
theorem snil : PSsf X W [] sNext := imSs pss_nil fun D σ H ⟨th, rho, env, ih, R, h⟩ => h th σ H Ext.refl R
theorem scons (h1 : PSf X W st F) (h2 : PSsf X W rest G) : PSsf X W (st :: rest) (sSeq F G) := by
  refine imSs (pss_cons h1 h2) fun D σ H ⟨th, rho, env, ih, R, h⟩ => ?_
  refine ⟨th, rho, env, ih, R, ?_⟩
  unfold sSeq at h
  cases e : F env ih with
  | next env' ih' =>
    rw [e] at h
    exact fun th' σ' H' e' R' => ⟨th', rho, env', ih', R', h.shift e'⟩
  | ret p i => rw [e] at h; exact h
  | brk a i => rw [e] at h; exact h
  | cont a i => rw [e] at h; exact h
  | ex x a i => rw [e] at h; exact h
  | bad => rw [e] at h; exact h
theorem sone (h1 : PSf X W st F) : PSsf X W [st] F := pss_one h1
theorem fpass : PSf X W (.Pass pos) sNext := imS ps_pass fun D σ H ⟨th, rho, env, ih, R, h⟩ => h th σ H Ext.refl R
theorem fbrk : PSf X W (.Break pos) sBrk := imS ps_break fun D σ H ⟨th, rho, env, ih, R, h⟩ => h th σ H Ext.refl R
theorem fcont : PSf X W (.Continue pos) sCont := imS ps_continue fun D σ H ⟨th, rho, env, ih, R, h⟩ => h th σ H Ext.refl R
theorem fdoc {x j pos pos'} : PSf X W (.Expr (.Constant (.str x) j pos) pos') sNext := imS ps_doc fun D σ H ⟨th, rho, env, ih, R, h⟩ => h th σ H Ext.refl R
theorem fnever : PSf X W st sBad := imS ps_never fun D σ H ⟨_, _, _, _, _, h⟩ => h
theorem fexpr (he : PEf X W e E) (hs : swapsWith e none pos.line X.env = pure false := by rfl) : PSf X W (.Expr e pos) (sExpr E) := by
  refine imS (ps_expr he hs) fun D σ H ⟨th, rho, env, ih, R, h⟩ => ?_
  refine ⟨th, rho, env, ih, R, PostS.step R h fun p ih1 th1 x H1 e1 C1 r1 h1 => ?_⟩
  exact h1 th1 σ H1 Ext.refl (R.next e1 C1)
theorem fret (he : PEf X W e E) : PSf X W (.Return (some e) pos) (sRet E) := by
  refine imS (ps_ret he) fun D σ H ⟨th, rho, env, ih, R, h⟩ => ?_
  refine ⟨th, rho, env, ih, R, PostS.step R h fun p ih1 th1 x H1 e1 C1 r1 h1 => ?_⟩
  exact h1 th1 x H1 Ext.refl C1 r1
theorem fretN : PSf X W (.Return none pos) sRetN := imS ps_retN fun D σ H ⟨th, rho, env, ih, R, h⟩ => h th .non H Ext.refl R.cells rfl
theorem fifs {c : Expr} {a b : List Stmt} (hc : PTf X W c T) (ha : PSsf X W a F) (hb : PSsf X W b G) : PSf X W (.If c a b pos) (sIf T F G) := by
  refine imS (ps_if hc ha hb) fun D σ H ⟨th, rho, env, ih, R, h⟩ => ?_
  refine ⟨th, rho, env, ih, R, PostS.step R h fun p ih1 th1 x H1 e1 C1 r1 h1 => ?_⟩
  cases r1
  cases p with
  | true => exact (if_pos rfl).mpr ⟨th1, rho, env, ih1, R.next e1 C1, h1⟩
  | false => exact (if_neg Bool.false_ne_true).mpr ⟨th1, rho, env, ih1, R.next e1 C1, h1⟩
theorem fset {i : Nat} {x : Str} {pos' : Pos} (hN : X.N.Nodup) (he : PEf X W e E) (hi : X.N[i]? = some x := by rfl) (hx : Loc X.env.scope x := by first | exact Or.inl rfl | exact Or.inr rfl) (hs : swapsWith e (some (.Name x pos')) pos.line X.env = pure false := by rfl) (hf : X.fn x = true ∨ X.env.scope.names.lookup x = some .local := by first | exact .inl rfl | exact .inr rfl) :
    PSf X W (.Assign [.Name x pos'] e pos) (sSet i E) := by
  refine imS (ps_set hN hi hx he hs hf) fun D σ H ⟨th, rho, env, ih, R, h⟩ => ?_
  refine ⟨th, rho, env, ih, R, PostS.step R h fun p ih1 th1 x H1 e1 C1 r1 h1 => ?_⟩
  exact h1 th1 _ H1 Ext.refl (.set C1 (R.next e1 C1).env r1)
theorem faug {i : Nat} {x : Str} {op : Operator} {g : OpG} {pos' : Pos} (hN : X.N.Nodup) (he : PEf X W e E) (ho : OpF X (inplaceOp op) g) (hi : X.N[i]? = some x := by rfl) (hx : Loc X.env.scope x := by first | exact Or.inl rfl | exact Or.inr rfl) (hf : X.fn x = true ∨ X.env.scope.names.lookup x = some .local := by first | exact .inl rfl | exact .inr rfl) :
    PSf X W (.AugAssign (.Name x pos') op e pos) (sAug i g E) := by
  obtain ⟨r, hr, hs⟩ := ho
  refine imS (ps_aug hN hi hx he (ti := r) hr hf) fun D σ H ⟨th, rho, env, ih, R, h⟩ => ?_
  unfold sAug eVar at h
  cases ev : env[i]? with
  | none => rw [ev] at h; exact h.elim
  | some o =>
    cases o with
    | none => rw [ev] at h; exact h.elim
    | some p =>
      rw [ev] at h
      obtain ⟨v, h1, h2⟩ := R.env.2 i p ev
      refine ⟨v, h1, th, rho, env, ih, R, PostS.step R h fun q ih1 th1 x H1 e1 C1 r1 hq => ?_⟩
      cases e3 : g ih1 p q with
      | none => rw [e3] at hq; exact hq.elim
      | some z =>
        rw [e3] at hq
        refine hs th1 rho H1 ih1 p q v x z _ C1 (h2.next R.cells e1) r1 e3 fun w H' e' C' r' => ?_
        exact hq th1 _ H' e' (.set C' ((R.next e1 C1).next e' C').env r')
theorem io_add : OpF X (inplaceOp .Add) (gI2 (fun _ _ => true) fun i j => i + j) := o_I0 iop_add
theorem io_sub : OpF X (inplaceOp .Sub) (gI2 (fun _ _ => true) fun i j => i - j) := o_I0 iop_sub
end

/-! ### targets -/
abbrev GT := IH → PV → EnvP → Option EnvP
def SameOut (sl : List Nat) (σ σ' : L2.St) : Prop := σ'.length = σ.length ∧ ∀ j, j ∉ sl → σ'[j]? = σ[j]?
theorem SameOut.refl {sl : List Nat} {σ : L2.St} : SameOut sl σ σ := ⟨rfl, fun _ _ => rfl⟩
theorem SameOut.trans {a b : List Nat} {σ σ1 σ2 : L2.St} (h : SameOut a σ σ1) (g : SameOut b σ1 σ2) : SameOut (a ++ b) σ σ2 :=
  ⟨g.1.trans h.1, fun j hj => by
    rw [List.mem_append, not_or] at hj
    exact (g.2 j hj.2).trans (h.2 j hj.1)⟩
def tG (K : PySem.W.Frag) (sl : List Nat) (G : GT) : TG := fun v σ H Q => ∃ th rho env ih p env', RSt K th rho σ H env ih ∧ Rep K th rho H p v ∧ G ih p env = some env' ∧
  ∀ σ', RSt K th rho σ' H env' ih → SameOut sl σ σ' → Q σ' H
def tGs (K : PySem.W.Frag) (sl : List Nat) (G : IH → List PV → EnvP → Option EnvP) : TGs := fun vs σ H Q => ∃ th rho env ih ps env', RSt K th rho σ H env ih ∧ RepL K th rho H ps vs ∧ G ih ps env = some env' ∧
  ∀ σ', RSt K th rho σ' H env' ih → SameOut sl σ σ' → Q σ' H
abbrev PGf (X : Cx) (t : Expr) (sl : List Nat) (G : GT) : Prop := PG X t (tG X.K sl G)
abbrev PGsf (X : Cx) (t : List Expr) (sl : List Nat) (G : IH → List PV → EnvP → Option EnvP) : Prop := PGs X t (tGs X.K sl G)
def gtName (i : Nat) : GT := fun _ p env => some (env.set i (some p))
def gtNil : IH → List PV → EnvP → Option EnvP := fun _ ps env => match ps with
  | [] => some env
  | _ => none
def gtCons (g : GT) (gs : IH → List PV → EnvP → Option EnvP) : IH → List PV → EnvP → Option EnvP := fun ih ps env => match ps with
  | p :: r => match g ih p env with
    | some e => gs ih r e
    | none => none
  | [] => none
def gtTup (n : Nat) (gs : IH → List PV → EnvP → Option EnvP) : GT := fun ih p env => match p with
  | .tup xs => if xs.length = n then gs ih xs env else none
  | _ => none
section
variable {X : Cx} {pos : Pos}
theorem gname {i : Nat} {x : Str} (hN : X.N.Nodup) (hi : X.N[i]? = some x := by rfl) (hx : Loc X.env.scope x := by first | exact Or.inl rfl | exact Or.inr rfl) (hf : X.fn x = true ∨ X.env.scope.names.lookup x = some .local := by first | exact .inl rfl | exact .inr rfl) : PGf X (.Name x pos) [i] (gtName i) := by
  have h := pg_name (pos := pos) hN hi hx hf
  refine ⟨fun pins s σ H v u Q I r ⟨th, rho, env, ih, p, env', R, rp, e, q⟩ => ?_⟩
  cases e
  refine h.run pins s σ H v u Q I r (q _ (.set R.cells R.env rp) ⟨by rw [List.length_set], fun j hj => ?_⟩)
  rw [List.getElem?_set_ne (fun z => hj (by simp [z]))]
theorem gnil : PGsf X [] [] gtNil := by
  refine ⟨fun pins s σ H vs us Q I r ⟨th, rho, env, ih, ps, env', R, rp, e, q⟩ => ?_⟩
  cases ps with
  | nil =>
    cases e
    cases rp
    exact pgs_nil.run pins s σ H _ us Q I r ⟨rfl, q σ R .refl⟩
  | cons p ps => cases e
theorem gcons {e : Expr} {es : List Expr} {s1 s2 : List Nat} {g : GT} {gs : IH → List PV → EnvP → Option EnvP} (h1 : PGf X e s1 g) (h2 : PGsf X es s2 gs)
    (hs : (assignEach (e :: es) X.env).map (·.2) = assign e X.env :: (assignEach es X.env).map (·.2) := by rfl) : PGsf X (e :: es) (s1 ++ s2) (gtCons g gs) := by
  have h := pgs_cons h1 h2 hs
  refine ⟨fun pins s σ H vs us Q I r ⟨th, rho, env, ih, ps, env', R, rp, e, q⟩ => ?_⟩
  cases ps with
  | nil => cases e
  | cons p ps =>
    obtain ⟨v, vr, rfl, r1, r2⟩ := rp
    unfold gtCons at e
    simp only at e
    cases e1 : g ih p env with
    | none => rw [e1] at e; cases e
    | some env1 =>
      rw [e1] at e
      refine h.run pins s σ H _ us Q I r ⟨v, vr, rfl, th, rho, env, ih, p, env1, R, r1, e1, fun σ1 R1 o1 => ?_⟩
      exact ⟨th, rho, env1, ih, ps, env', R1, r2, e, fun σ2 R2 o2 => q σ2 R2 (o1.trans o2)⟩
theorem gtup {es : List Expr} {k : Nat} {n : Nat} {sl : List Nat} {gs : IH → List PV → EnvP → Option EnvP} (hc : X.calm = true) (h : PGsf X es sl gs)
    (hn : (assignEach es X.env).length = n := by rfl) (hst : (assignEach es X.env).findIdx? (·.1) = none := by rfl) : PGf X (.Tuple es k pos) sl (gtTup n gs) := by
  have h' := pg_tup (pos := pos) (k := k) hc h hn hst
  refine ⟨fun pins s σ H v u Q I r ⟨th, rho, env, ih, p, env', R, rp, e, q⟩ => ?_⟩
  cases p <;> first | (cases e; done) | skip
  rename_i xs
  obtain ⟨a, vs, rfl, h1, h2⟩ := rp
  simp only [gtTup] at e
  split at e
  · rename_i hl
    exact h'.run pins s σ H _ u Q I r ⟨a, vs, rfl, h1, by rw [← h2.length]; exact hl, th, rho, env, ih, xs, env', R, h2, e, q⟩
  · cases e
end
def sAsg (G : GT) (F : EF) : SF := fun env ih => (F env ih).bindS env fun p h => match G h p env with
  | some e => .next e h
  | none => .bad
/-- a, b, .. = e -/
theorem fasg {X : Cx} {W : WX} {tg e : Expr} {sl : List Nat} {G : GT} {F : EF} {pos : Pos} (he : PEf X W e F) (hg : PGf X tg sl G) (hs : swapsWithSole [tg] e pos.line X.env = pure false := by rfl) (hw : swappedStores [tg] e X.env = pure none := by rfl)
    (h1 : (assignEach [tg] X.env).map (·.2) = [assign tg X.env] := by rfl) : PSf X W (.Assign [tg] e pos) (sAsg G F) := by
  refine imS (ps_asg he hg hs hw h1) fun D σ H ⟨th, rho, env, ih, R, h⟩ => ?_
  refine ⟨th, rho, env, ih, R, PostS.step R h fun p ih1 th1 x H1 e1 C1 r1 h1 => ?_⟩
  cases e3 : G ih1 p env with
  | none => rw [e3] at h1; exact h1.elim
  | some env' =>
    rw [e3] at h1
    exact ⟨th1, rho, env, ih1, p, env', R.next e1 C1, r1, e3, fun σ' R' _ => h1 th1 σ' H1 Ext.refl R'⟩
/-- a, b = e1, e2 -/
def sPar (i j : Nat) (A : AF) : SF := fun env ih => (A env ih).bindS env fun ps h => match ps with
  | [p, q] => .next ((env.set i (some p)).set j (some q)) h
  | _ => .bad
theorem fpar {X : Cx} {W : WX} {i j : Nat} {x y : Str} {a b : Expr} {A : AF} {px py pt pos : Pos} {kt k2 pt2} (hc : X.calm = true) (hN : X.N.Nodup) (ha : PAf X W [a, b] A) (hi : X.N[i]? = some x := by rfl) (hj : X.N[j]? = some y := by rfl) (hij : i ≠ j := by decide)
    (hx : X.env.scope.names.lookup x = some .local := by rfl) (hy : X.env.scope.names.lookup y = some .local := by rfl)
    (hw : swappedStores [.Tuple [.Name x px, .Name y py] kt pt] (.Tuple [a, b] k2 pt2) X.env = pure (some [x, y]) := by rfl)
    (hs : swapsWithSole [.Tuple [.Name x px, .Name y py] kt pt] (.Tuple [a, b] k2 pt2) pos.line X.env = pure false := by rfl) :
    PSf X W (.Assign [.Tuple [.Name x px, .Name y py] kt pt] (.Tuple [a, b] k2 pt2) pos) (sPar i j A) := by
  refine imS (ps_par hc hN hi hj hij hx hy ha hw hs) fun D σ H ⟨th, rho, env, ih, R, h⟩ => ?_
  refine ⟨th, rho, env, ih, R, PostS.step R h fun ps ih1 th1 xs H1 e1 C1 r1 h1 => ?_⟩
  cases ps with
  | nil => exact h1.elim
  | cons p ps =>
    cases ps with
    | nil => exact h1.elim
    | cons q ps =>
      cases ps with
      | cons _ _ => exact h1.elim
      | nil =>
        obtain ⟨v, u, rfl, r2, r3⟩ := repl2 r1
        exact ⟨v, u, rfl, h1 th1 _ H1 Ext.refl ⟨C1, ((R.next e1 C1).env.set r2).set r3⟩⟩
/-- what o[i] = z makes of the cells -/
def setIx (h : IH) (p q z : PV) : Option IH := match p, q with
  | .ref n, .int k => match h[n]? with
    | some (.lst xs) => (ixN xs.length k).map fun j => h.set n (.lst (xs.set j z))
    | none => none
  | _, _ => none
/-- xs[i] = e -/
def sSub (F I E : EF) : SF := fun env ih => (E env ih).bindS env fun z h1 => (F env h1).bindS env fun p h2 => (I env h2).bindS env fun q h3 => (ofOpt (setIx h3 p q z) h3).bindS env fun h' _ => .next env h'
theorem fsub {X : Cx} {W : WX} {o i e : Expr} {F I E : EF} {p2 pos : Pos} (he : PEf X W e E) (ho : PEf X W o F) (hi : PEf X W i I) (hs : swapsWithSole [.Subscript o i p2] e pos.line X.env = pure false := by rfl) (hw : swappedStores [.Subscript o i p2] e X.env = pure none := by rfl)
    (ha : ∀ v, assign (.Subscript o i p2) X.env v = (do
      let ov ← holding [v] (eval o X.env)
      let iv ← holding [v, ov] (eval i X.env)
      standAt p2
      holding [v, ov, iv] (setItem ov iv v)
      release [v, ov, iv] []) := by intro _; rfl)
    (h1 : (assignEach [.Subscript o i p2] X.env).map (·.2) = [assign (.Subscript o i p2) X.env] := by rfl) : PSf X W (.Assign [.Subscript o i p2] e pos) (sSub F I E) := by
  refine imS (ps_asg he (pg_sub ho hi set_list ha) hs hw h1) fun D σ H ⟨th, rho, env, ih, R, h⟩ => ?_
  refine ⟨th, rho, env, ih, R, PostS.step R h fun z ih1 th1 x H1 e1 C1 r1 h1 => ?_⟩
  have R1 := R.next e1 C1
  refine ⟨th1, rho, env, ih1, R1, PostS.step R1 h1 fun p ih2 th2 y H2 e2 C2 r2 h2 => ?_⟩
  have R2 := R1.next e2 C2
  refine ⟨th2, rho, env, ih2, R2, PostS.step R2 h2 fun q ih3 th3 w H3 e3 C3 r3 h3 => ?_⟩
  have R3 := R2.next e3 C3
  cases p <;> first | exact h3.elim | skip
  rename_i n
  cases q <;> first | exact h3.elim | skip
  rename_i k
  cases r3
  obtain ⟨a, rfl, h4⟩ := r2.next C2 e3
  unfold setIx at h3
  simp only at h3
  cases e5 : ih3[n]? with
  | none => rw [e5] at h3; exact h3.elim
  | some c =>
    cases c with
    | lst xs =>
      rw [e5] at h3
      simp only at h3
      obtain ⟨vs, h6, h7⟩ := C3.ref h4 e5
      cases e6 : ixN xs.length k with
      | none => rw [e6] at h3; exact h3.elim
      | some j =>
        rw [e6] at h3
        simp only [Option.map_some, ofOpt_some, Res.bindS_ok] at h3
        refine ⟨a, vs, k, j, rfl, rfl, h6, by rw [← h7.length]; exact e6, ?_⟩
        have e := ext_set (o := .lst (vs.set j x)) (H := H3) h4
        have rz := ((r1.next C1 e2).next C2 e3)
        have C4 := C3.cellSet h4 (c := .lst (xs.set j z)) ⟨_, rfl, (RepL.set rz j h7).next C3 e⟩
        exact h3 th3 σ _ e (R3.next e C4)
end PF

set_option Elab.async false
set_option linter.all false
set_option maxRecDepth 100000
set_option maxHeartbeats 1000000
/-! PF: what is walked, for, while, comprehensions. -/
namespace PF
open PySem PySem.Spec PyProof.Rows L2
open Classical

/-! ### what is walked -/
structure ItP where
  xs : List PV
  chk : IH → Prop
def ItOk (K : PySem.W.Frag) (rho th : List Addr) (H : Hp) (it : ItP) (J : It) : Prop :=
  ∀ (th2 rho2 : List Addr) (H2 : Hp) (ih2 : IH) (i : Nat), Ext th H th2 H2 → CellsOk K th2 rho2 H2 ih2 → (∀ a ∈ rho2, a ∈ rho ∨ H a = none) → it.chk ih2 →
    (it.xs.length ≤ i → J.stop i H2) ∧ ∀ p, it.xs[i]? = some p → J.go i H2 ∧ ∀ x H3, J.yld i H2 x H3 → Ext th2 H2 th2 H3 ∧ CellsOk K th2 rho2 H3 ih2 ∧ Rep K th2 rho2 H3 p x
abbrev IFn := EnvP → IH → Res ItP
abbrev relI (K : PySem.W.Frag) (rho : List Addr) : List Addr → Hp → ItP → It → Prop := fun th' H' it J => ItOk K rho th' H' it J
def tI (K : PySem.W.Frag) (mg : Str → Option Value) (W : WX) (G : IFn) : TI := fun σ H R => ∃ th rho env ih, RSt K th rho σ H env ih ∧ Post K mg th rho H (relI K rho) R (fun c d H' => W c d σ H') (G env ih)
abbrev PIf (X : Cx) (W : WX) (tg iter : Expr) (G : IFn) : Prop := PI X tg iter (tI X.K X.mg W G)
theorem imI {X : Cx} {tg e : Expr} {t t' : TI} (h : PI X tg e t) (i : ∀ σ H R, t' σ H R → t σ H R) : PI X tg e t' := ⟨fun pins s σ H R I q => h.run pins s σ H R I (i _ _ _ q)⟩
def iAny (K : PySem.W.Frag) (tl : TE) : TI := fun σ H R => tl σ H fun x H1 => (∃ a, x = .ref a ∧ (∃ xs, SqL K H1 a xs) ∧ R (Itl K a) H1) ∨ (∃ a, x = .ref a ∧ (∃ xs, SqT K H1 a xs) ∧ R (Itt K a) H1) ∨ (∃ z, x = .str z ∧ R (Its z) H1)
theorem pi_any {X : Cx} {tg l : Expr} {tl : TE} (hl : PE X l tl) : PI X tg l (iAny X.K tl) := by
  refine ⟨fun pins s σ H R I h => thn (hl.run pins s σ H _ I h) fun v s1 ⟨x, H1, I1, r1, q1⟩ => ?_⟩
  rcases q1 with ⟨a, rfl, ⟨xs, hq⟩, q⟩ | ⟨a, rfl, ⟨xs, hq⟩, q⟩ | ⟨z, rfl, q⟩
  · cases r1
    obtain ⟨its, _, p, _⟩ := I1.list hq
    exact wpAny_pyIter_list p.isList (pi_one (tk := s1.toks) I1 _ (turn_list a _) ⟨_, Heap.get?_push_size _ rfl, rfl, rfl⟩ q)
  · cases r1
    obtain ⟨its, _, p, _⟩ := I1.tuple hq
    exact wpAny_pyIter_tuple (show s1.heap.IsTuple a its.toArray from p) (pi_one (tk := s1.toks) I1 _ (turn_tuple a _) ⟨_, Heap.get?_push_size _ rfl, rfl, rfl⟩ q)
  · obtain ⟨t, rfl⟩ := r1
    by_cases ha : z.cps.all (· < 128) = true
    · exact wpAny_pyIter_ascii ha (pi_one (tk := s1.toks) I1 _ (turn_str _ z t _ (.inl rfl)) ⟨_, Heap.get?_push_size _ rfl, rfl, rfl⟩ q)
    · exact wpAny_pyIter_wide (by simpa using ha) (pi_one (tk := s1.toks) I1 _ (turn_str _ z t _ (.inr rfl)) ⟨_, Heap.get?_push_size _ rfl, rfl, rfl⟩ q)
def signs (z : Str) : List PV := z.cps.toList.map fun c => .str ⟨#[c]⟩
/-- the things that a loop over p walks, as they stand -/
def itOf (ih : IH) : PV → Option ItP
  | .tup xs => some ⟨xs, fun _ => True⟩
  | .lst xs => some ⟨xs, fun _ => True⟩
  | .scr xs => some ⟨xs, fun _ => True⟩
  | .str z => some ⟨signs z, fun _ => True⟩
  | .ref n => match ih[n]? with
    | some (.lst xs) => some ⟨xs, fun h => h[n]? = some (.lst xs)⟩
    | none => none
  | _ => none
section
variable {K : PySem.W.Frag} {th rho : List Addr} {H : Hp} {ih : IH}
theorem RepL.get' {ps : List PV} {vs : List V} {i : Nat} {p : PV} (r : RepL K th rho H ps vs) (h : ps[i]? = some p) : ∃ v, vs[i]? = some v ∧ Rep K th rho H p v := r.get h
theorem itl_ok {a : Addr} {ps : List PV} {chk : IH → Prop} (h : ∀ (th2 rho2 : List Addr) (H2 : Hp) (ih2 : IH), Ext th H th2 H2 → CellsOk K th2 rho2 H2 ih2 → (∀ a ∈ rho2, a ∈ rho ∨ H a = none) → chk ih2 → ∃ vs, SqL K H2 a vs ∧ RepL K th2 rho2 H2 ps vs) :
    ItOk K rho th H ⟨ps, chk⟩ (Itl K a) := by
  intro th2 rho2 H2 ih2 i e C hr hc
  obtain ⟨vs, h1, h2⟩ := h th2 rho2 H2 ih2 e C hr hc
  refine ⟨fun hl => ⟨vs, h1, by rw [← h2.length]; exact hl⟩, fun p hp => ?_⟩
  obtain ⟨v, h3, h4⟩ := h2.get hp
  refine ⟨⟨vs, v, h1, h3⟩, fun x H3 ⟨e3, hx⟩ => ?_⟩
  subst e3
  have := hx vs h1
  rw [h3] at this
  cases this
  exact ⟨Ext.refl, C, h4⟩
theorem itt_ok {a : Addr} {ps : List PV} {chk : IH → Prop} (h : ∀ (th2 rho2 : List Addr) (H2 : Hp) (ih2 : IH), Ext th H th2 H2 → CellsOk K th2 rho2 H2 ih2 → (∀ a ∈ rho2, a ∈ rho ∨ H a = none) → chk ih2 → ∃ vs, SqT K H2 a vs ∧ RepL K th2 rho2 H2 ps vs) :
    ItOk K rho th H ⟨ps, chk⟩ (Itt K a) := by
  intro th2 rho2 H2 ih2 i e C hr hc
  obtain ⟨vs, h1, h2⟩ := h th2 rho2 H2 ih2 e C hr hc
  refine ⟨fun hl => ⟨vs, h1, by rw [← h2.length]; exact hl⟩, fun p hp => ?_⟩
  obtain ⟨v, h3, h4⟩ := h2.get hp
  refine ⟨⟨vs, v, h1, h3⟩, fun x H3 ⟨e3, hx⟩ => ?_⟩
  subst e3
  have := hx vs h1
  rw [h3] at this
  cases this
  exact ⟨Ext.refl, C, h4⟩
theorem ite_ok {a : Addr} {ps : List PV} {chk : IH → Prop} (h : ∀ (th2 rho2 : List Addr) (H2 : Hp) (ih2 : IH), Ext th H th2 H2 → CellsOk K th2 rho2 H2 ih2 → (∀ a ∈ rho2, a ∈ rho ∨ H a = none) → chk ih2 → ∃ vs, SqL K H2 a vs ∧ RepL K th2 rho2 H2 ps vs) :
    ItOk K rho th H ⟨ps.zipIdx.map fun q => .tup [.int q.2, q.1], chk⟩ (Ite K a) := by
  intro th2 rho2 H2 ih2 i e C hr hc
  obtain ⟨vs, h1, h2⟩ := h th2 rho2 H2 ih2 e C hr hc
  refine ⟨fun hl => ⟨vs, h1, by rw [← h2.length]; simpa using hl⟩, fun p hp => ?_⟩
  rw [List.getElem?_map, List.getElem?_zipIdx] at hp
  cases e0 : ps[i]? with
  | none => rw [e0] at hp; cases hp
  | some p0 =>
    rw [e0] at hp
    cases hp
    obtain ⟨v, h3, h4⟩ := h2.get e0
    refine ⟨⟨vs, v, h1, h3⟩, fun x H3 ⟨T, y, ex, nT, e3, hx⟩ => ?_⟩
    subst ex e3
    have := hx vs h1
    rw [h3] at this
    cases this
    have e5 : Ext th2 H2 th2 (upd H2 T (.tup [.int ((i : Nat) : Int), v])) := ext_new nT
    refine ⟨e5, C.new nT, T, _, rfl, .of upd_same, ?_⟩
    refine ⟨_, _, rfl, ?_, _, _, rfl, h4.next C e5, rfl⟩
    show V.int _ = V.int _
    simp
theorem itr_ok {lo : Int} {n : Nat} : ItOk K rho th H ⟨(List.range n).map fun (i : Nat) => .int (lo + i), fun _ => True⟩ (Itr lo n) := by
  intro th2 rho2 H2 ih2 i e C hr hc
  refine ⟨fun hl => by show n ≤ i; simpa using hl, fun p hp => ?_⟩
  have hl : i < n := by simpa using (List.getElem?_eq_some_iff.mp hp).1
  rw [List.getElem?_map, List.getElem?_range hl] at hp
  cases hp
  refine ⟨hl, fun x H3 ⟨e3, hx⟩ => ?_⟩
  subst e3 hx
  exact ⟨Ext.refl, C, rfl⟩
theorem its_ok {z : Str} : ItOk K rho th H ⟨signs z, fun _ => True⟩ (Its z) := by
  intro th2 rho2 H2 ih2 i e C hr hc
  unfold signs
  refine ⟨fun hl => by show z.cps.size ≤ i; simpa using hl, fun p hp => ?_⟩
  have hl : i < z.cps.size := by simpa using (List.getElem?_eq_some_iff.mp hp).1
  refine ⟨hl, fun x H3 ⟨e3, c, hc, hx⟩ => ?_⟩
  subst e3 hx
  rw [List.getElem?_map, Array.getElem?_toList, hc] at hp
  cases hp
  exact ⟨Ext.refl, C, rfl⟩
theorem stay_lst {a : Addr} {ps : List PV} {xs : List V} (C0 : CellsOk K th rho H ih) (h1 : H a = some (.lst xs) ∧ a ∉ th ∧ a ∉ rho) (h2 : RepL K th rho H ps xs) (th2 rho2 : List Addr) (H2 : Hp) (e : Ext th H th2 H2) (hr : ∀ a ∈ rho2, a ∈ rho ∨ H a = none) :
    ∃ vs, SqL K H2 a vs ∧ RepL K th2 rho2 H2 ps vs := ⟨xs, .of (e.keep a _ h1.1 h1.2.1), RepL.ext2 (fun _ z => C0.cell z) e hr ps h2⟩
theorem stay_scr {a : Addr} {ps : List PV} {xs : List V} (C0 : CellsOk K th rho H ih) (h1 : Sc K H a xs) (h2 : RepL K th rho H ps xs) (th2 rho2 : List Addr) (H2 : Hp) (e : Ext th H th2 H2) (hr : ∀ a ∈ rho2, a ∈ rho ∨ H a = none) :
    ∃ vs, SqL K H2 a vs ∧ RepL K th2 rho2 H2 ps vs := ⟨xs, (h1.ext (fun _ z => C0.cell z) e).sq, RepL.ext2 (fun _ z => C0.cell z) e hr ps h2⟩
end
def iSeq (F : EF) : IFn := fun env ih => (F env ih).bind fun p h => ofOpt (itOf h p) h
def enumOf (ih : IH) (p : PV) : Option ItP := match p with
  | .tup _ => none
  | .str _ => none
  | p => (itOf ih p).map fun it => ⟨it.xs.zipIdx.map fun q => .tup [.int q.2, q.1], it.chk⟩
def iEnumF (A : AF) : IFn := fun env ih => (A env ih).bind fun ps h => match ps with
  | [p] => ofOpt (enumOf h p) h
  | _ => .bad
def rngOk (j : Int) : Bool := decide (j.natAbs < 2 ^ 62)
def rngP (i j : Int) : ItP := ⟨(List.range (j - i).toNat).map fun (k : Nat) => .int (i + k), fun _ => True⟩
def iRng1F (A : AF) : IFn := fun env ih => (A env ih).bind fun ps h => match ps with
  | [.int j] => if rngOk j then .ok (rngP 0 j) h else .bad
  | _ => .bad
def iRng2F (A : AF) : IFn := fun env ih => (A env ih).bind fun ps h => match ps with
  | [.int i, .int j] => if rngOk i && rngOk j then .ok (rngP i j) h else .bad
  | _ => .bad
section
variable {X : Cx} {W : WX} {tg e a b : Expr} {F : EF} {A : AF} {p pos tpos : Pos} {elts : List Expr} {kk : Nat}
theorem jseq (he : PEf X W e F) : PIf X W tg e (iSeq F) := by
  refine imI (pi_any he) fun σ H R' ⟨th, rho, env, ih, R, h⟩ => ?_
  refine ⟨th, rho, env, ih, R, Post.step h fun p ih1 th1 x H1 e1 C1 r1 h1 => ?_⟩
  cases p with
  | non => exact h1.elim
  | bl _ => exact h1.elim
  | int _ => exact h1.elim
  | tup ps =>
    obtain ⟨a, xs, rfl, h2, h3⟩ := r1
    exact .inr (.inl ⟨a, rfl, ⟨xs, h2⟩, h1.here C1 (itt_ok fun th2 rho2 H2 ih2 e C hr _ => ⟨xs, SqT.ext (fun _ z => C1.cell z) e h2, RepL.ext2 (fun _ z => C1.cell z) e hr ps h3⟩)⟩)
  | lst ps =>
    obtain ⟨a, xs, rfl, h2, h3⟩ := r1
    exact .inl ⟨a, rfl, ⟨xs, .of h2.1⟩, h1.here C1 (itl_ok fun th2 rho2 H2 ih2 e C hr _ => stay_lst C1 h2 h3 th2 rho2 H2 e hr)⟩
  | scr ps =>
    obtain ⟨a, xs, rfl, h2, h3⟩ := r1
    exact .inl ⟨a, rfl, ⟨xs, h2.sq⟩, h1.here C1 (itl_ok fun th2 rho2 H2 ih2 e C hr _ => stay_scr C1 h2 h3 th2 rho2 H2 e hr)⟩
  | str z => cases r1; exact .inr (.inr ⟨z, rfl, h1.here C1 its_ok⟩)
  | ref n =>
    obtain ⟨a, rfl, h2⟩ := r1
    cases e5 : ih1[n]? with
    | none => simp only [itOf, e5, ofOpt_none] at h1; exact h1.elim
    | some c =>
      cases c with
      | lst ps =>
        simp only [itOf, e5, ofOpt_some] at h1
        obtain ⟨xs, h3, h4⟩ := C1.ref h2 e5
        refine .inl ⟨a, rfl, ⟨xs, .of h3⟩, h1.here C1 (itl_ok fun th2 rho2 H2 ih2 e C hr hc => ?_)⟩
        obtain ⟨vs, h5, h6⟩ := C.ref (e.pre n a h2) hc
        exact ⟨vs, .of h5, h6⟩
theorem jenum (hg : Gl X "enumerate") (hm : X.mg "enumerate" = none) (ha : PAf X W [e] A) (hs : starEach [e] X.env = [(false, eval e X.env)] := by rfl) : PIf X W (.Tuple elts kk tpos) (.Call (.Name "enumerate" p) [e] [] pos) (iEnumF A) := by
  refine imI (pi_enum hg hm ha hs) fun σ H R' ⟨th, rho, env, ih, R, h⟩ => ?_
  refine ⟨th, rho, env, ih, R, Post.step h fun ps ih1 th1 xs H1 e1 C1 r1 h1 => ?_⟩
  cases ps with
  | nil => exact h1.elim
  | cons p ps =>
    cases ps with
    | cons _ _ => exact h1.elim
    | nil =>
      obtain ⟨v, rfl, r⟩ := repl1 r1
      simp only at h1
      cases p with
      | non => exact h1.elim
      | bl _ => exact h1.elim
      | int _ => exact h1.elim
      | tup ps => exact h1.elim
      | str z => exact h1.elim
      | lst ps =>
        obtain ⟨a, xs, rfl, h2, h3⟩ := r
        exact ⟨a, xs, rfl, .of h2.1, h1.here C1 (ite_ok fun th2 rho2 H2 ih2 e C hr _ => stay_lst C1 h2 h3 th2 rho2 H2 e hr)⟩
      | scr ps =>
        obtain ⟨a, xs, rfl, h2, h3⟩ := r
        exact ⟨a, xs, rfl, h2.sq, h1.here C1 (ite_ok fun th2 rho2 H2 ih2 e C hr _ => stay_scr C1 h2 h3 th2 rho2 H2 e hr)⟩
      | ref n =>
        obtain ⟨a, rfl, h2⟩ := r
        cases e5 : ih1[n]? with
        | none => simp only [enumOf, itOf, e5, Option.map_none, ofOpt_none] at h1; exact h1.elim
        | some c =>
          cases c with
          | lst ps =>
            simp only [enumOf, itOf, e5, Option.map_some, ofOpt_some] at h1
            obtain ⟨xs, h3, h4⟩ := C1.ref h2 e5
            refine ⟨a, xs, rfl, .of h3, h1.here C1 (ite_ok fun th2 rho2 H2 ih2 e C hr hc => ?_)⟩
            obtain ⟨vs, h5, h6⟩ := C.ref (e.pre n a h2) hc
            exact ⟨vs, .of h5, h6⟩
theorem jrng1 (hg : Gl X "range") (hm : X.mg "range" = none) (ha : PAf X W [a] A) (hs : starEach [a] X.env = [(false, eval a X.env)] := by rfl) : PIf X W tg (.Call (.Name "range" p) [a] [] pos) (iRng1F A) := by
  refine imI (pi_range1 hg hm ha hs) fun σ H R' ⟨th, rho, env, ih, R, h⟩ => ?_
  refine ⟨th, rho, env, ih, R, Post.step h fun ps ih1 th1 xs H1 e1 C1 r1 h1 => ?_⟩
  cases ps with
  | nil => exact h1.elim
  | cons p ps =>
    cases ps with
    | cons q ps => cases p <;> exact h1.elim
    | nil =>
      obtain ⟨v, rfl, r⟩ := repl1 r1
      cases p <;> first | exact h1.elim | skip
      rename_i j
      cases r
      simp only at h1
      split at h1
      · rename_i hj
        unfold rngOk at hj
        have hj' := of_decide_eq_true hj
        have e : (j - 0).toNat = j.toNat := by omega
        unfold rngP at h1
        rw [e] at h1
        exact ⟨j, rfl, by omega, by omega, h1.here C1 itr_ok⟩
      · exact h1.elim
theorem jrng2 (hg : Gl X "range") (hm : X.mg "range" = none) (ha : PAf X W [a, b] A) (hs : starEach [a, b] X.env = [(false, eval a X.env), (false, eval b X.env)] := by rfl) (hs2 : starEach [b] X.env = [(false, eval b X.env)] := by rfl) : PIf X W tg (.Call (.Name "range" p) [a, b] [] pos) (iRng2F A) := by
  refine imI (pi_range2 hg hm ha hs hs2) fun σ H R' ⟨th, rho, env, ih, R, h⟩ => ?_
  refine ⟨th, rho, env, ih, R, Post.step h fun ps ih1 th1 xs H1 e1 C1 r1 h1 => ?_⟩
  cases ps with
  | nil => exact h1.elim
  | cons p ps =>
    cases ps with
    | nil => cases p <;> exact h1.elim
    | cons q ps =>
      cases ps with
      | cons _ _ => cases p <;> cases q <;> exact h1.elim
      | nil =>
        obtain ⟨v, u, rfl, r, r'⟩ := repl2 r1
        cases p <;> first | exact h1.elim | skip
        rename_i i
        cases q <;> first | exact h1.elim | skip
        rename_i j
        cases r
        cases r'
        simp only at h1
        split at h1
        · rename_i hj
          rw [Bool.and_eq_true] at hj
          unfold rngOk at hj
          have h2 := of_decide_eq_true hj.1
          have h3 := of_decide_eq_true hj.2
          exact ⟨i, j, rfl, ⟨by omega, by omega, by omega, by omega⟩, h1.here C1 itr_ok⟩
        · exact h1.elim
end

/-! ### for -/
/-- the turns of a loop -/
noncomputable def forL (chk : IH → Prop) (G : GT) (B : SF) : List PV → SF
  | [] => fun env h => if chk h then .next env h else .bad
  | x :: xs => fun env h => if chk h then match G h x env with
    | some e => match B e h with
      | .next e' h' => forL chk G B xs e' h'
      | .cont e' h' => forL chk G B xs e' h'
      | .brk e' h' => .next e' h'
      | r => r
    | none => .bad
    else .bad
noncomputable def sFor (I : IFn) (G : GT) (B : SF) : SF := fun env ih => (I env ih).bindS env fun it h => forL it.chk G B it.xs env h
theorem ffor {X : Cx} {W : WX} {tg iter : Expr} {body : List Stmt} {I : IFn} {G : GT} {sl : List Nat} {B : SF} {pos : Pos} (hp : PassesOwn (model X.prog X.w) X.A X.env X.xe) (hc : X.calm = true) (hi : PIf X W tg iter I) (hg : PGf X tg sl G) (hb : PSsf X W body B)
    (hs : ∀ x, foldedSetIterable iter X.env x = pure x := by intro _; rfl) : PSf X W (.For tg iter body [] pos) (sFor I G B) := by
  refine imS (ps_for hp hc hi hg hb hs) fun D σ H ⟨th, rho, env, ih, R, h⟩ => ?_
  refine ⟨th, rho, env, ih, R, PostS.step R h fun it ih1 th1 J H1 e1 C1 r1 h1 => ?_⟩
  refine ⟨fun i m σ2 H2 => m = it.xs.length - i ∧ i ≤ it.xs.length ∧ ∃ th2 env2 ih2, Ext th1 H1 th2 H2 ∧ RSt X.K th2 rho σ2 H2 env2 ih2 ∧ PostS X.K X.mg th2 rho H2 W D (forL it.chk G B (it.xs.drop i) env2 ih2),
    ⟨it.xs.length, by simp, Nat.zero_le _, th1, env, ih1, Ext.refl, R.next e1 C1, by simpa using h1⟩, ?_⟩
  rintro i m σ2 H2 ⟨rfl, hle, th2, env2, ih2, e2, R2, h2⟩
  by_cases hck : it.chk ih2
  case neg =>
    exfalso
    cases hd : it.xs.drop i with
    | nil => rw [hd] at h2; unfold forL at h2; rw [if_neg hck] at h2; exact h2
    | cons x xs => rw [hd] at h2; unfold forL at h2; rw [if_neg hck] at h2; exact h2
  have K2 := r1 th2 rho H2 ih2 i e2 R2.cells (fun a z => .inl z) hck
  by_cases hlt : i < it.xs.length
  · right
    have hd : it.xs.drop i = it.xs[i] :: it.xs.drop (i + 1) := List.drop_eq_getElem_cons hlt
    rw [hd] at h2
    unfold forL at h2
    rw [if_pos hck] at h2
    obtain ⟨go, yl⟩ := K2.2 it.xs[i] (List.getElem?_eq_getElem hlt)
    refine ⟨go, fun σ3 H3 => i + 1 ≤ it.xs.length ∧ ∃ th2 env2 ih2, Ext th1 H1 th2 H3 ∧ RSt X.K th2 rho σ3 H3 env2 ih2 ∧ PostS X.K X.mg th2 rho H3 W D (forL it.chk G B (it.xs.drop (i + 1)) env2 ih2), fun σ3 H3 hN => ⟨it.xs.length - (i + 1), by omega, rfl, hN.1, hN.2⟩, fun x H3 hy => ?_⟩
    obtain ⟨e3, C3, r3⟩ := yl x H3 hy
    have R3 := R2.next e3 C3
    cases hg2 : G ih2 it.xs[i] env2 with
    | none => rw [hg2] at h2; exact h2.elim
    | some env3 =>
      rw [hg2] at h2
      simp only at h2
      refine ⟨th2, rho, env2, ih2, it.xs[i], env3, R3, r3, hg2, fun σ4 R4 _ => ?_⟩
      refine ⟨th2, rho, env3, ih2, R4, ?_⟩
      have h3 := h2.shift e3
      cases hB : B env3 ih2 with
      | next a j => rw [hB] at h3; exact fun th5 σ5 H5 e5 R5 => ⟨hlt, th5, a, j, (e2.trans e3).trans e5, R5, h3.shift e5⟩
      | cont a j => rw [hB] at h3; exact fun th5 σ5 H5 e5 R5 => ⟨hlt, th5, a, j, (e2.trans e3).trans e5, R5, h3.shift e5⟩
      | brk a j => rw [hB] at h3; exact h3
      | ret p j => rw [hB] at h3; exact h3
      | ex x a j => rw [hB] at h3; exact h3
      | bad => rw [hB] at h3; exact h3
  · left
    have e : i = it.xs.length := by omega
    subst e
    refine ⟨K2.1 (Nat.le_refl _), ?_⟩
    rw [List.drop_length] at h2
    unfold forL at h2
    rw [if_pos hck] at h2
    exact h2 th2 σ2 H2 Ext.refl R2

/-! ### while -/
def whileN (T : TF) (B : SF) : Nat → SF
  | 0 => fun _ _ => .bad
  | n + 1 => fun env h => (T env h).bindS env fun b h1 => if b then match B env h1 with
    | .next e h2 => whileN T B n e h2
    | .cont e h2 => whileN T B n e h2
    | .brk e h2 => .next e h2
    | r => r
    else .next env h1
noncomputable def sWhile (T : TF) (B : SF) : SF := fun env h => if hx : ∃ n, whileN T B n env h ≠ .bad then whileN T B (choose hx) env h else .bad
theorem whileN_mono {T : TF} {B : SF} : ∀ (n m : Nat) (env : EnvP) (h : IH), n ≤ m → whileN T B n env h ≠ .bad → whileN T B m env h = whileN T B n env h
  | 0, _, _, _, _, hb => absurd rfl hb
  | n + 1, 0, _, _, hl, _ => absurd hl (by omega)
  | n + 1, m + 1, env, h, hl, hb => by
    unfold whileN at hb ⊢
    cases hT : T env h with
    | ok b h1 =>
      rw [hT] at hb
      simp only [Res.bindS_ok] at hb ⊢
      cases b with
      | false => rfl
      | true =>
        simp only [if_true] at hb ⊢
        cases hB : B env h1 with
        | next e h2 => rw [hB] at hb; exact whileN_mono n m e h2 (by omega) hb
        | cont e h2 => rw [hB] at hb; exact whileN_mono n m e h2 (by omega) hb
        | _ => rfl
    | ex x h1 => rfl
    | bad => rfl
theorem sWhile_of {T : TF} {B : SF} {n : Nat} {env : EnvP} {h : IH} (hb : whileN T B n env h ≠ .bad) : sWhile T B env h = whileN T B n env h := by
  unfold sWhile
  have hx : ∃ n, whileN T B n env h ≠ .bad := ⟨n, hb⟩
  rw [dif_pos hx]
  have h1 := choose_spec hx
  have h2 := whileN_mono _ (max n (choose hx)) env h (Nat.le_max_left _ _) hb
  have h3 := whileN_mono _ (max n (choose hx)) env h (Nat.le_max_right _ _) h1
  rw [← h2, ← h3]
theorem fwhile {X : Cx} {W : WX} {c : Expr} {body : List Stmt} {T : TF} {B : SF} {pos : Pos} (hp : PassesOwn (model X.prog X.w) X.A X.env X.xe) (hc : PTf X W c T) (hb : PSsf X W body B) : PSf X W (.While c body [] pos) (sWhile T B) := by
  refine imS (ps_while hp hc hb) fun D σ H ⟨th, rho, env, ih, R, h⟩ => ?_
  have hne : sWhile T B env ih ≠ .bad := fun z => by rw [z] at h; exact h
  have hx : ∃ n, whileN T B n env ih ≠ .bad := by
    refine byContradiction fun z => hne ?_
    unfold sWhile
    rw [dif_neg z]
  obtain ⟨n, hn⟩ := hx
  rw [sWhile_of hn] at h
  refine ⟨fun m σ2 H2 => ∃ th2 env2 ih2, RSt X.K th2 rho σ2 H2 env2 ih2 ∧ PostS X.K X.mg th2 rho H2 W D (whileN T B m env2 ih2), ⟨n, th, env, ih, R, h⟩, ?_⟩
  rintro m σ2 H2 ⟨th2, env2, ih2, R2, h2⟩
  cases m with
  | zero => exact h2.elim
  | succ m =>
    unfold whileN at h2
    refine ⟨th2, rho, env2, ih2, R2, PostS.step R2 h2 fun b ih3 th3 b' H3 e3 C3 r3 h3 => ?_⟩
    cases r3
    have R3 := R2.next e3 C3
    cases b with
    | false => exact (if_neg Bool.false_ne_true).mpr (h3 th3 σ2 H3 Ext.refl R3)
    | true =>
      refine (if_pos rfl).mpr ⟨fun σ4 H4 => ∃ th2 env2 ih2, RSt X.K th2 rho σ4 H4 env2 ih2 ∧ PostS X.K X.mg th2 rho H4 W D (whileN T B m env2 ih2), fun σ4 H4 hN => ⟨m, Nat.lt_succ_self m, hN⟩, th3, rho, env2, ih3, R3, ?_⟩
      simp only [if_true] at h3
      cases hB : B env2 ih3 with
      | next a j => rw [hB] at h3; exact fun th5 σ5 H5 e5 R5 => ⟨th5, a, j, R5, h3.shift e5⟩
      | cont a j => rw [hB] at h3; exact fun th5 σ5 H5 e5 R5 => ⟨th5, a, j, R5, h3.shift e5⟩
      | brk a j => rw [hB] at h3; exact h3
      | ret p j => rw [hB] at h3; exact h3
      | ex x a j => rw [hB] at h3; exact h3
      | bad => rw [hB] at h3; exact h3

/-! ### list comprehensions -/
def W0 : WX := fun _ _ _ _ => False
noncomputable def lcL (chk : IH → Prop) (G : GT) (T : TF) (F : EF) (env : EnvP) : List PV → List PV → IH → Res (List PV)
  | [], acc, h => if chk h then .ok acc h else .bad
  | x :: xs, acc, h => if chk h then match G h x env with
    | some e => match T e h with
      | .ok b h1 => if b then match F e h1 with
        | .ok p h2 => if acc.length < sizeLine then lcL chk G T F env xs (acc ++ [p]) h2 else .bad
        | _ => .bad
        else lcL chk G T F env xs acc h1
      | _ => .bad
    | none => .bad
    else .bad
noncomputable def eLc (I : IFn) (G : GT) (T : TF) (F : EF) (vs : List Nat) : EF := fun env ih => (I env ih).bind fun it h => (lcL it.chk G T F (wipeP env vs) it.xs [] h).bind fun ps h' => .ok (.lst ps) h'
def tYesF : TF := fun _ ih => .ok true ih
theorem wipe_get {τ : L2.St} {j : Nat} : ∀ {vs : List Nat}, j < τ.length → (wipe τ vs)[j]? = if j ∈ vs then some none else τ[j]?
  | [], _ => by simp [wipe]
  | v :: vs, hj => by
    unfold wipe
    by_cases e : v = j
    · subst e
      rw [List.getElem?_set_self (by rw [wipe_length]; exact hj)]
      simp
    · rw [List.getElem?_set_ne e, wipe_get hj]
      have e' : j ≠ v := fun z => e z.symm
      simp [List.mem_cons, e']
theorem wipe_same {σ σ2 : L2.St} {vs sl : List Nat} (h : SameOut sl (wipe σ vs) σ2) (hs : ∀ j ∈ sl, j ∈ vs) : wipe σ2 vs = wipe σ vs := by
  have hl : σ2.length = σ.length := by rw [h.1, wipe_length]
  apply List.ext_getElem?
  intro j
  by_cases hj : j < σ.length
  · rw [wipe_get (by omega), wipe_get hj]
    by_cases hv : j ∈ vs
    · rw [if_pos hv, if_pos hv]
    · rw [if_neg hv, if_neg hv, h.2 j fun z => hv (hs j z), wipe_get hj, if_neg hv]
  · rw [List.getElem?_eq_none (by rw [wipe_length]; omega), List.getElem?_eq_none (by rw [wipe_length]; omega)]
section
variable {K : PySem.W.Frag} {th rho : List Addr} {H : Hp} {ih : IH}
theorem CellsOk.fewer {D : Addr} (C : CellsOk K th (D :: rho) H ih) : CellsOk K th rho H ih :=
  ⟨C.len, C.nd, fun a h z => C.dj a h (List.mem_cons_of_mem _ z), fun n c e => by
    obtain ⟨a, o, h1, h2, h3⟩ := C.at_ n c e
    refine ⟨a, o, h1, h2, ?_⟩
    cases c with
    | lst ps =>
      obtain ⟨xs, h4, h5⟩ := h3
      exact ⟨xs, h4, RepL.fewer (fun a z => List.mem_cons_of_mem _ z) ps h5⟩, fun a h => C.rs a (List.mem_cons_of_mem _ h)⟩
theorem CellsOk.more {D : Addr} {xs : List V} (C : CellsOk K th rho H ih) (hD : H D = none) : CellsOk K th (D :: rho) (upd H D (.lst xs)) ih := by
  have e : Ext th H th (upd H D (.lst xs)) := ext_new hD
  have hr : ∀ a ∈ D :: rho, a ∈ rho ∨ H a = none := fun a z => (List.mem_cons.mp z).elim (fun q => .inr (by rw [q]; exact hD)) .inl
  refine ⟨C.len, C.nd, fun a h z => ?_, fun n c q => ?_, fun a h => ?_⟩
  · rcases List.mem_cons.mp z with z | z
    · rw [z] at h; exact C.nth hD h
    · exact C.dj a h z
  · obtain ⟨a, o, h1, h2, h3⟩ := C.at_ n c q
    refine ⟨a, o, h1, by rw [upd_ne (ne_of_none h2 hD)]; exact h2, ?_⟩
    cases c with
    | lst ps =>
      obtain ⟨ys, h4, h5⟩ := h3
      exact ⟨ys, h4, RepL.ext2 (fun _ z => C.cell z) e hr ps h5⟩
  · rcases List.mem_cons.mp h with z | z
    · rw [z]; exact ⟨xs, upd_same⟩
    · obtain ⟨ys, q⟩ := C.rs a z
      exact ⟨ys, by rw [upd_ne (ne_of_none q hD)]; exact q⟩
theorem CellsOk.resv {D : Addr} {ys zs : List V} (C : CellsOk K th (D :: rho) H ih) (hD : H D = some (.lst ys)) : CellsOk K th (D :: rho) (upd H D (.lst zs)) ih := by
  refine ⟨C.len, C.nd, C.dj, fun n c q => ?_, fun a h => ?_⟩
  · obtain ⟨a, o, h1, h2, h3⟩ := C.at_ n c q
    have ne : a ≠ D := fun z => C.dj a (List.mem_of_getElem? h1) (by rw [z]; exact List.mem_cons_self)
    refine ⟨a, o, h1, by rw [upd_ne ne]; exact h2, ?_⟩
    cases c with
    | lst ps =>
      obtain ⟨ws, h4, h5⟩ := h3
      exact ⟨ws, h4, RepL.res hD List.mem_cons_self ps h5⟩
  · by_cases z : a = D
    · rw [z]; exact ⟨zs, upd_same⟩
    · obtain ⟨ws, q⟩ := C.rs a h
      exact ⟨ws, by rw [upd_ne z]; exact q⟩
theorem ext_res {th2 : List Addr} {H2 : Hp} {D : Addr} {o : HO} (hD : H D = none) (e : Ext th H th2 H2) : Ext th H th2 (upd H2 D o) :=
  ⟨fun a u h n => by rw [upd_ne (ne_of_none h hD)]; exact e.keep a u h n, e.new, e.pre⟩
end
theorem EnvOk.ext2 {K th th' rho rho2 H H'} {env : EnvP} {σ : L2.St} (C : ∀ b ∈ th, ∃ xs, H b = some (.lst xs)) (e : Ext th H th' H') (hr : ∀ a ∈ rho2, a ∈ rho ∨ H a = none) (h : EnvOk K th rho H env σ) : EnvOk K th' rho2 H' env σ :=
  ⟨h.1, fun i p q => let ⟨v, h1, h2⟩ := h.2 i p q; ⟨v, h1, Rep.ext2 C e hr p h2⟩⟩
/-- the turns of a comprehension, at any reading of the list it makes -/
theorem lc_step {K : PySem.W.Frag} {mg : Str → Option Value} {W : WX} {I : IFn} {G : GT} {sl vs : List Nat} {T : TF} {F : EF} (hsl : ∀ j ∈ sl, j ∈ vs) {σ : L2.St} {H : Hp} {Q : VK} (h : tE K mg W (eLc I G T F vs) σ H Q) :
    tLc (tI K mg W I) (tG K sl G) (tT K mg W0 T) (tE K mg W0 F) vs σ H Q := by
  obtain ⟨th, rho, env, ih, R, h⟩ := h
  refine ⟨th, rho, env, ih, R, Post.step h fun it ih1 th1 J H1 e1 C1 r1 h1 => ?_⟩
  intro D hD
  have R1 := R.next e1 C1
  refine ⟨fun i m H2 => m = it.xs.length - i ∧ i ≤ it.xs.length ∧ ∃ th2 ih2 ps xs, Ext th1 H1 th2 H2 ∧ CellsOk K th2 (D :: rho) H2 ih2 ∧ H2 D = some (.lst xs) ∧ RepL K th2 (D :: rho) H2 ps xs ∧
      Post K mg th1 rho H1 (relV K rho) Q (fun c d H' => W c d σ H') ((lcL it.chk G T F (wipeP env vs) (it.xs.drop i) ps ih2).bind fun ps h' => .ok (.lst ps) h'),
    ⟨it.xs.length, by simp, Nat.zero_le _, th1, ih1, [], [], ext_new hD, C1.more hD, upd_same, rfl, by simpa using h1⟩, ?_⟩
  rintro i m H2 ⟨rfl, hle, th2, ih2, ps, xs, e2, C2, hD2, rps, h2⟩
  have hrr : ∀ a ∈ D :: rho, a ∈ rho ∨ H1 a = none := fun a z => (List.mem_cons.mp z).elim (fun q => .inr (by rw [q]; exact hD)) .inl
  by_cases hck : it.chk ih2
  case neg =>
    exfalso
    cases hd : it.xs.drop i with
    | nil => rw [hd] at h2; unfold lcL at h2; rw [if_neg hck] at h2; exact h2
    | cons x xs => rw [hd] at h2; unfold lcL at h2; rw [if_neg hck] at h2; exact h2
  have K2 := r1 th2 (D :: rho) H2 ih2 i e2 C2 hrr hck
  by_cases hlt : i < it.xs.length
  · right
    have hd : it.xs.drop i = it.xs[i] :: it.xs.drop (i + 1) := List.drop_eq_getElem_cons hlt
    rw [hd] at h2
    unfold lcL at h2
    rw [if_pos hck] at h2
    obtain ⟨go, yl⟩ := K2.2 it.xs[i] (List.getElem?_eq_getElem hlt)
    refine ⟨go, fun H3 => i + 1 ≤ it.xs.length ∧ ∃ th2 ih2 ps xs, Ext th1 H1 th2 H3 ∧ CellsOk K th2 (D :: rho) H3 ih2 ∧ H3 D = some (.lst xs) ∧ RepL K th2 (D :: rho) H3 ps xs ∧
      Post K mg th1 rho H1 (relV K rho) Q (fun c d H' => W c d σ H') ((lcL it.chk G T F (wipeP env vs) (it.xs.drop (i + 1)) ps ih2).bind fun ps h' => .ok (.lst ps) h'), fun H3 hN => ⟨it.xs.length - (i + 1), by omega, rfl, hN.1, hN.2⟩, fun x H3 hy => ?_⟩
    obtain ⟨e3, C3, r3⟩ := yl x H3 hy
    have hDth : D ∉ th2 := fun z => C2.dj D z List.mem_cons_self
    have hD3 : H3 D = some (.lst xs) := e3.keep D _ hD2 hDth
    have E3 : EnvOk K th2 (D :: rho) H3 (wipeP env vs) (wipe σ vs) := (EnvOk.wipe (R1.env.ext2 (fun _ z => C1.cell z) (e2.trans e3) hrr) vs)
    cases hg2 : G ih2 it.xs[i] (wipeP env vs) with
    | none => rw [hg2] at h2; exact h2.elim
    | some env3 =>
      rw [hg2] at h2
      simp only at h2
      refine ⟨th2, D :: rho, wipeP env vs, ih2, it.xs[i], env3, ⟨C3, E3⟩, r3, hg2, fun σ4 R4 o4 => ⟨wipe_same o4 hsl, ?_⟩⟩
      refine ⟨th2, D :: rho, env3, ih2, R4, ?_⟩
      cases hT : T env3 ih2 with
      | bad => rw [hT] at h2; exact h2.elim
      | ex _ _ => rw [hT] at h2; exact h2.elim
      | ok b ih3 =>
        rw [hT] at h2
        simp only at h2
        intro th5 b' H5 e5 C5 r5
        cases r5
        have hD5 : H5 D = some (.lst xs) := e5.keep D _ hD3 hDth
        have rps5 := (rps.next C2 e3).next C3 e5
        cases b with
        | false =>
          refine (if_neg Bool.false_ne_true).mpr ?_
          simp only [Bool.false_eq_true, if_false] at h2
          exact ⟨hlt, th5, ih3, ps, xs, (e2.trans e3).trans e5, C5, hD5, rps5, h2⟩
        | true =>
          refine (if_pos rfl).mpr ⟨th5, D :: rho, env3, ih3, R4.next e5 C5, ?_⟩
          simp only [if_true] at h2
          cases hF : F env3 ih3 with
          | bad => rw [hF] at h2; exact h2.elim
          | ex _ _ => rw [hF] at h2; exact h2.elim
          | ok p ih4 =>
            rw [hF] at h2
            simp only at h2
            intro th6 y H6 e6 C6 r6
            have hD6 : H6 D = some (.lst xs) := e6.keep D _ hD5 (fun z => C5.dj D z List.mem_cons_self)
            have rps6 := rps5.next C5 e6
            by_cases hlen : ps.length < sizeLine
            · rw [if_pos hlen] at h2
              refine ⟨xs, hD6, by rw [← rps6.length]; exact hlen, hlt, th6, ih4, ps ++ [p], xs ++ [y], ext_res hD (((e2.trans e3).trans e5).trans e6), C6.resv hD6, upd_same, ?_, h2⟩
              exact (RepL.res hD6 List.mem_cons_self ps rps6).append (show RepL K th6 (D :: rho) _ [p] [y] from ⟨y, [], rfl, Rep.res hD6 List.mem_cons_self p r6, rfl⟩)
            · rw [if_neg hlen] at h2; exact h2.elim
  · left
    have e : i = it.xs.length := by omega
    subst e
    refine ⟨K2.1 (Nat.le_refl _), ?_⟩
    rw [List.drop_length] at h2
    unfold lcL at h2
    rw [if_pos hck] at h2
    refine h2 th2 (.ref D) H2 e2 C2.fewer ⟨D, xs, rfl, ⟨hD2, fun z => C2.dj D z List.mem_cons_self, fun z => ?_⟩, RepL.fewer (fun a z => List.mem_cons_of_mem _ z) ps rps⟩
    obtain ⟨ys, q⟩ := C1.rs D z
    rw [hD] at q; cases q
section
variable {X : Cx} {W : WX} {elt tg iter : Expr} {ifs : List Expr} {scope : Scope} {own : List (Str × Nat)} {I : IFn} {G : GT} {sl vs : List Nat} {T : TF} {F : EF} {pos : Pos}
/-- a clause's tests -/
abbrev PTsf (X : Cx) (W : WX) (es : List Expr) (F : TF) : Prop := PTs X es (tT X.K X.mg W F)
theorem lnil {X : Cx} : PTsf X W [] tYesF := ⟨fun pins s σ H Q I ⟨th, rho, env, ih, R, h⟩ => pts_nil.run pins s σ H Q I (h.here R.cells rfl)⟩
theorem lone {X : Cx} {c : Expr} (h : PTf X W c T) : PTsf X W [c] T := pts_one h
theorem flc (hc : X.calm = true) (hN : X.N.Nodup) (hi : PIf X W tg iter I) (ok : BlkOk X.N X.env.scope scope own)
    (hg : ∀ (s : Shared) (H : Hp) (C : Addr) (cl : List (Str × Addr)) (fp : List Addr), PGf (X.blk s H scope (compEnvC scope cl C X.env) fp) tg sl G) (ht : ∀ (s : Shared) (H : Hp) (C : Addr) (cl : List (Str × Addr)) (fp : List Addr), PTsf (X.blk s H scope (compEnvC scope cl C X.env) fp) W0 ifs T)
    (he : ∀ (s : Shared) (H : Hp) (C : Addr) (cl : List (Str × Addr)) (fp : List Addr), PEf (X.blk s H scope (compEnvC scope cl C X.env) fp) W0 elt F) (hvs : own.map (·.2) = vs := by rfl) (hsl : ∀ j ∈ sl, j ∈ vs := by decide) (hs : ∀ x, foldedSetIterable iter X.env x = pure x := by intro _; rfl) :
    PEf X W (.ListComp elt [⟨tg, iter, ifs, 0⟩] scope pos) (eLc I G T F vs) := by
  subst hvs
  exact imE (pe_lc hc hN hi ok hg ht he hs) fun σ H Q h => lc_step hsl h
theorem fsetLc {i : Nat} {y : Str} {py spos : Pos} (hc : X.calm = true) (hN : X.N.Nodup) (hsw : swapsWith (.ListComp elt [⟨tg, iter, ifs, 0⟩] scope pos) (some (.Name y py)) spos.line X.env = pure true) (hi : PIf X W tg iter I) (ok : BlkOk X.N X.env.scope scope own)
    (hg : ∀ (s : Shared) (H : Hp) (C : Addr) (cl : List (Str × Addr)) (fp : List Addr), PGf (X.blk s H scope (compEnvC scope cl C X.env) fp) tg sl G) (ht : ∀ (s : Shared) (H : Hp) (C : Addr) (cl : List (Str × Addr)) (fp : List Addr), PTsf (X.blk s H scope (compEnvC scope cl C X.env) fp) W0 ifs T)
    (he : ∀ (s : Shared) (H : Hp) (C : Addr) (cl : List (Str × Addr)) (fp : List Addr), PEf (X.blk s H scope (compEnvC scope cl C X.env) fp) W0 elt F) (hvs : own.map (·.2) = vs := by rfl) (hsl : ∀ j ∈ sl, j ∈ vs := by decide) (hs : ∀ x, foldedSetIterable iter X.env x = pure x := by intro _; rfl)
    (hy : X.N[i]? = some y := by rfl) (hyl : X.env.scope.names.lookup y = some .local := by rfl) :
    PSf X W (.Assign [.Name y py] (.ListComp elt [⟨tg, iter, ifs, 0⟩] scope pos) spos) (sSet i (eLc I G T F vs)) := by
  subst hvs
  refine imS (ps_setLc (wi := tI X.K X.mg W I) (g := tG X.K sl G) (tt := tT X.K X.mg W0 T) (te := tE X.K X.mg W0 F) hc hN hy hyl hsw hi ok hg ht he hs) fun D σ H ⟨th, rho, env, ih, R, h⟩ => ?_
  exact lc_step hsl ⟨th, rho, env, ih, R, PostS.step R h fun p ih1 th1 x H1 e1 C1 r1 h1 => h1 th1 _ H1 Ext.refl (.set C1 (R.next e1 C1).env r1)⟩
end
end PF

set_option Elab.async false
set_option linter.all false
set_option maxRecDepth 100000
set_option maxHeartbeats 1000000
/-! PF: defs, their calls, a law's end. -/
namespace PF
open PySem PySem.Spec PyProof.Rows L2
open Classical

/-! ### values without new cells -/
mutual
/-- all cells named are below n -/
def clP (n : Nat) : PV → Bool
  | .non => true
  | .bl _ => true
  | .int _ => true
  | .str _ => true
  | .tup xs => clL n xs
  | .lst xs => clL n xs
  | .scr xs => clL n xs
  | .ref m => decide (m < n)
def clL (n : Nat) : List PV → Bool
  | [] => true
  | x :: xs => clP n x && clL n xs
end
def clC (n : Nat) : Cell → Bool
  | .lst xs => clL n xs
section
variable {K : PySem.W.Frag} {th th1 rho : List Addr} {H : Hp} {ih : IH}
mutual
theorem rep_cl : ∀ (p : PV) {v : V}, Rep K th rho H p v → clP th.length p = true
  | .non, _, _ => rfl
  | .bl _, _, _ => rfl
  | .int _, _, _ => rfl
  | .str _, _, _ => rfl
  | .tup ps, _, ⟨_, _, _, _, h⟩ => by simp only [clP]; exact repL_cl ps h
  | .lst ps, _, ⟨_, _, _, _, h⟩ => by simp only [clP]; exact repL_cl ps h
  | .scr ps, _, ⟨_, _, _, _, h⟩ => by simp only [clP]; exact repL_cl ps h
  | .ref n, _, ⟨_, _, h⟩ => decide_eq_true (List.getElem?_eq_some_iff.mp h).1
theorem repL_cl : ∀ (ps : List PV) {vs : List V}, RepL K th rho H ps vs → clL th.length ps = true
  | [], _, _ => rfl
  | p :: ps, _, ⟨_, _, _, h1, h2⟩ => by simp only [clL, rep_cl p h1, repL_cl ps h2, Bool.and_self]
end
mutual
/-- with fewer cells -/
theorem rep_cut {n : Nat} : ∀ (p : PV) {v : V}, Rep K th rho H p v → clP n p = true → Rep K (th.take n) rho H p v
  | .non, _, h, _ => h
  | .bl _, _, h, _ => h
  | .int _, _, h, _ => h
  | .str _, _, h, _ => h
  | .tup ps, _, ⟨a, xs, h1, h2, h3⟩, hc => ⟨a, xs, h1, h2, repL_cut ps h3 (by simpa only [clP] using hc)⟩
  | .lst ps, _, ⟨a, xs, h1, ⟨h2, h4, h5⟩, h3⟩, hc => ⟨a, xs, h1, ⟨h2, fun z => h4 (List.mem_of_mem_take z), h5⟩, repL_cut ps h3 (by simpa only [clP] using hc)⟩
  | .scr ps, _, ⟨a, xs, h1, h2, h3⟩, hc => ⟨a, xs, h1, h2, repL_cut ps h3 (by simpa only [clP] using hc)⟩
  | .ref m, _, ⟨a, h1, h2⟩, hc => ⟨a, h1, by rw [List.getElem?_take_of_lt (of_decide_eq_true (by simpa only [clP] using hc))]; exact h2⟩
theorem repL_cut {n : Nat} : ∀ (ps : List PV) {vs : List V}, RepL K th rho H ps vs → clL n ps = true → RepL K (th.take n) rho H ps vs
  | [], _, h, _ => h
  | p :: ps, _, ⟨v, vr, h1, h2, h3⟩, hc => by
    simp only [clL, Bool.and_eq_true] at hc
    exact ⟨v, vr, h1, rep_cut p h2 hc.1, repL_cut ps h3 hc.2⟩
end
end
/-- cells from n on become frozen lists -/
def frz (n : Nat) (h : IH) : Nat → PV → Option PV
  | 0, p => if clP n p then some p else none
  | k + 1, p => if clP n p then some p else match p with
    | .tup xs => (optAll (frz n h k) xs).map .tup
    | .lst xs => (optAll (frz n h k) xs).map .lst
    | .scr xs => (optAll (frz n h k) xs).map .scr
    | .ref m => match h[m]? with
      | some (.lst xs) => (optAll (frz n h k) xs).map .lst
      | none => none
    | _ => none
section
variable {K : PySem.W.Frag} {th rho : List Addr} {H : Hp} {ih : IH}
theorem frz_list {n : Nat} {k : Nat} (go : ∀ (p q : PV) (v : V), frz n ih k p = some q → Rep K th rho H p v → Rep K (th.take n) rho H q v) : ∀ (ps qs : List PV) (vs : List V), optAll (frz n ih k) ps = some qs → RepL K th rho H ps vs → RepL K (th.take n) rho H qs vs
  | [], _, _, h, r => by cases h; exact r
  | p :: ps, _, _, h, ⟨v, vr, e, r1, r2⟩ => by
    obtain ⟨q, qs, h1, h2, rfl⟩ := optAll_cons h
    exact ⟨v, vr, e, go p q v h1 r1, frz_list go ps qs vr h2 r2⟩
theorem frz_rep {n : Nat} (C : CellsOk K th rho H ih) : ∀ (k : Nat) (p q : PV) (v : V), frz n ih k p = some q → Rep K th rho H p v → Rep K (th.take n) rho H q v
  | 0, p, q, v, h, r => by
    simp only [frz] at h
    split at h
    · rename_i hc; cases h; exact rep_cut p r hc
    · cases h
  | k + 1, p, q, v, h, r => by
    unfold frz at h
    split at h
    · rename_i hc; cases h; exact rep_cut p r hc
    · rename_i hc
      cases p with
      | non => cases h
      | bl _ => cases h
      | int _ => cases h
      | str _ => cases h
      | tup ps =>
        obtain ⟨a, xs, h1, h2, h3⟩ := r
        simp only at h
        cases e : optAll (frz n ih k) ps with
        | none => rw [e] at h; cases h
        | some qs => rw [e] at h; cases h; exact ⟨a, xs, h1, h2, frz_list (frz_rep C k) ps qs xs e h3⟩
      | lst ps =>
        obtain ⟨a, xs, h1, ⟨h2, h4, h5⟩, h3⟩ := r
        simp only at h
        cases e : optAll (frz n ih k) ps with
        | none => rw [e] at h; cases h
        | some qs => rw [e] at h; cases h; exact ⟨a, xs, h1, ⟨h2, fun z => h4 (List.mem_of_mem_take z), h5⟩, frz_list (frz_rep C k) ps qs xs e h3⟩
      | scr ps =>
        obtain ⟨a, xs, h1, h2, h3⟩ := r
        simp only at h
        cases e : optAll (frz n ih k) ps with
        | none => rw [e] at h; cases h
        | some qs => rw [e] at h; cases h; exact ⟨a, xs, h1, h2, frz_list (frz_rep C k) ps qs xs e h3⟩
      | ref m =>
        obtain ⟨a, h1, h2⟩ := r
        simp only at h
        cases e0 : ih[m]? with
        | none => rw [e0] at h; cases h
        | some c =>
          cases c with
          | lst ps =>
            rw [e0] at h
            simp only at h
            obtain ⟨xs, h3, h4⟩ := C.ref h2 e0
            cases e : optAll (frz n ih k) ps with
            | none => rw [e] at h; cases h
            | some qs =>
              rw [e] at h
              cases h
              have hm : ¬ m < n := fun z => hc (by simp [clP, z])
              refine ⟨a, xs, h1, ⟨h3, fun z => ?_, C.dj a (List.mem_of_getElem? h2)⟩, frz_list (frz_rep C k) ps qs xs e h4⟩
              obtain ⟨j, hj, ej⟩ := List.getElem_of_mem z
              rw [List.length_take] at hj
              rw [List.getElem_take] at ej
              obtain ⟨l2, e2⟩ := List.getElem?_eq_some_iff.mp h2
              have := (List.getElem_inj C.nd).mp (ej.trans e2.symm)
              omega
/-- the old cells alone -/
def oldOk (n : Nat) (ih h : IH) : Prop := ∀ m, m < n → h[m]? = ih[m]? ∨ ∃ c, h[m]? = some c ∧ clC n c = true
theorem cells_cut {th0 : List Addr} {H0 : Hp} {ih0 : IH} (C0 : CellsOk K th0 rho H0 ih0) (e : Ext th0 H0 th H) (C : CellsOk K th rho H ih) (o : oldOk ih0.length ih0 ih) : th.take ih0.length = th0 ∧ CellsOk K th0 rho H (ih.take ih0.length) ∧ Ext th0 H0 th0 H := by
  have hl : th0.length ≤ th.length := by
    by_cases hz : th0.length = 0
    · omega
    · have hlast : th0.length - 1 < th0.length := by omega
      have := e.pre (th0.length - 1) _ (List.getElem?_eq_getElem hlast)
      have := (List.getElem?_eq_some_iff.mp this).1
      omega
  have ht : th.take ih0.length = th0 := by
    apply List.ext_getElem?
    intro j
    by_cases hj : j < th0.length
    · rw [List.getElem?_take_of_lt (by rw [← C0.len]; exact hj)]
      rw [List.getElem?_eq_getElem hj]
      exact e.pre j _ (List.getElem?_eq_getElem hj)
    · rw [List.getElem?_eq_none (by rw [List.length_take, ← C0.len]; omega), List.getElem?_eq_none (by omega)]
  refine ⟨ht, ⟨?_, C0.nd, C0.dj, fun m c q => ?_, C.rs⟩, e.keep, fun a h => .inl h, fun _ _ h => h⟩
  · rw [List.length_take, ← C.len, C0.len]; have := C0.len; omega
  · have hm : m < ih0.length := by
      have := (List.getElem?_eq_some_iff.mp q).1
      rw [List.length_take] at this; omega
    rw [List.getElem?_take_of_lt hm] at q
    obtain ⟨a, ob, h1, h2, h3⟩ := C.at_ m c q
    refine ⟨a, ob, by rw [← ht, List.getElem?_take_of_lt hm]; exact h1, h2, ?_⟩
    have hc : clC ih0.length c = true := by
      rcases o m hm with q2 | ⟨c2, q2, hc⟩
      · rw [q] at q2
        obtain ⟨_, ob2, _, _, h6⟩ := C0.at_ m c q2.symm
        cases c with
        | lst ps =>
          obtain ⟨xs, _, h7⟩ := h6
          have := repL_cl ps h7
          rw [C0.len] at this
          exact this
      · rw [q] at q2; cases q2; exact hc
    cases c with
    | lst ps =>
      obtain ⟨xs, h7, h8⟩ := h3
      rw [← ht]
      exact ⟨xs, h7, repL_cut ps h8 hc⟩
end
noncomputable def fin (fr : Bool) (ih : IH) (v : PV) (h : IH) : Res PV := if fr then (if oldOk ih.length ih h then match frz ih.length h 6 v with
  | some q => .ok q (h.take ih.length)
  | none => .bad
  else .bad) else .ok v h
def fsCl (n : Nat) (x : PX) : Bool := clL n (x.fs.map (·.2))
noncomputable def finX (fr : Bool) (ih : IH) (x : PX) (h : IH) : Res PV := if fr then (if oldOk ih.length ih h ∧ fsCl ih.length x = true then .ex x (h.take ih.length) else .bad) else .ex x h
def env0 (n : Nat) (args : List PV) : EnvP := args.map some ++ List.replicate (n - args.length) none
noncomputable def mkFn (fr : Bool) (n : Nat) (B : SF) : FnF := fun args ih => match B (env0 n args) ih with
  | .next _ h => fin fr ih .non h
  | .ret v h => fin fr ih v h
  | .ex x _ h => finX fr ih x h
  | _ => .bad
theorem env0_ok {K th rho H} {N : List Str} {args : List PV} {vs : List V} (r : RepL K th rho H args vs) : EnvOk K th rho H (env0 N.length args) (L2.start N vs) := by
  unfold env0 L2.start
  have hl := r.length
  refine ⟨by simp [hl], fun i p q => ?_⟩
  by_cases hi : i < args.length
  · rw [List.getElem?_append_left (by simpa using hi), List.getElem?_map] at q
    cases e : args[i]? with
    | none => rw [e] at q; cases q
    | some a =>
      rw [e] at q
      cases q
      obtain ⟨v, h1, h2⟩ := r.get e
      exact ⟨v, by rw [List.getElem?_append_left (by simpa [← hl] using hi), List.getElem?_map, h1]; rfl, h2⟩
  · rw [List.getElem?_append_right (by simpa using hi), List.getElem?_replicate] at q
    split at q <;> cases q
/-- a def's promise: what the plain function gives -/
def spF (K : PySem.W.Frag) (mg : Str → Option Value) (m : Nat) (F : FnF) : Sp := fun vs H Q E => vs.length = m ∧ ∃ th rho ih args, CellsOk K th rho H ih ∧ RepL K th rho H args vs ∧ Post K mg th rho H (relV K rho) Q E (F args ih)
theorem fsRep_cut {K th rho H} {n : Nat} : ∀ (fs : List (Str × PV)) {vs : List (Str × V)}, FsRep K th rho H fs vs → clL n (fs.map (·.2)) = true → FsRep K (th.take n) rho H fs vs
  | [], _, h, _ => h
  | (f, p) :: fs, _, ⟨v, vr, h1, h2, h3⟩, hc => by
    simp only [List.map_cons, clL, Bool.and_eq_true] at hc
    exact ⟨v, vr, h1, rep_cut p h2 hc.1, fsRep_cut fs h3 hc.2⟩
section
variable {K : PySem.W.Frag} {mg : Str → Option Value} {th rho : List Addr} {H : Hp} {ih : IH} {Q : VK} {E : XK}
theorem fin_step {fr : Bool} {v : PV} {h : IH} (C0 : CellsOk K th rho H ih) (P : Post K mg th rho H (relV K rho) Q E (fin fr ih v h)) {th1 : List Addr} {H1 : Hp} {x : V} (e : Ext th H th1 H1) (C : CellsOk K th1 rho H1 h) (r : Rep K th1 rho H1 v x) : Q x H1 := by
  unfold fin at P
  cases fr with
  | false =>
    rw [if_neg Bool.false_ne_true] at P
    exact P th1 x H1 e C r
  | true =>
    rw [if_pos rfl] at P
    split at P
    · rename_i ho
      obtain ⟨h1, h2, h3⟩ := cells_cut C0 e C ho
      split at P
      · rename_i q hq
        have := frz_rep (n := ih.length) C 6 v q x hq r
        rw [h1] at this
        exact P th x H1 h3 h2 this
      · exact P.elim
    · exact P.elim
theorem finX_step {fr : Bool} {x : PX} {h : IH} (C0 : CellsOk K th rho H ih) (P : Post K mg th rho H (relV K rho) Q E (finX fr ih x h)) {th1 : List Addr} {H1 : Hp} {c : Value} {d : Option Addr} (e : Ext th H th1 H1) (C : CellsOk K th1 rho H1 h) (r : ExR K mg x c d th1 rho H1) : E c d H1 := by
  unfold finX at P
  cases fr with
  | false =>
    rw [if_neg Bool.false_ne_true] at P
    exact P th1 c d H1 e C r
  | true =>
    rw [if_pos rfl] at P
    split at P
    · rename_i ho
      obtain ⟨h1, h2, h3⟩ := cells_cut C0 e C ho.1
      obtain ⟨Cl, q1, q2, q3⟩ := r
      refine P th c d H1 h3 h2 ⟨Cl, q1, q2, ?_⟩
      rcases q3 with q3 | ⟨da, fv, q4, q5, q6⟩
      · exact .inl q3
      · refine .inr ⟨da, fv, q4, q5, ?_⟩
        have := fsRep_cut (n := ih.length) x.fs q6 ho.2
        rw [h1] at this
        exact this
    · exact P.elim
/-- a body's end, as the def's promise wants it -/
theorem body_step {N : List Str} {m : Nat} {fr : Bool} {B : SF} {vs : List V} {W : WX} (hW : ∀ c d σ H', E c d H' → W c d σ H') (h : spF K mg m (mkFn fr N.length B) vs H Q E) : tS K mg W B { nx := fun _ H' => Q .non H', rt := Q } (L2.start N vs) H := by
  obtain ⟨_, th, rho, ih, args, C, r, P⟩ := h
  refine ⟨th, rho, env0 N.length args, ih, ⟨C, env0_ok r⟩, ?_⟩
  unfold mkFn at P
  cases hB : B (env0 N.length args) ih with
  | next a j => rw [hB] at P; exact fun th' σ' H' e R => fin_step C P e R.cells rfl
  | ret p j => rw [hB] at P; exact fun th' x H' e C' r' => fin_step C P e C' r'
  | ex x a j => rw [hB] at P; exact fun th' σ' c d H' e R r' => hW c d σ' H' (finX_step C P e R.cells r')
  | brk a j => rw [hB] at P; exact P.elim
  | cont a j => rw [hB] at P; exact P.elim
  | bad => rw [hB] at P; exact P.elim
end
def noEx {α : Type} : Res α → Res α
  | .ex _ _ => .bad
  | r => r
@[simp] theorem noEx_ok {α : Type} (a : α) (h : IH) : noEx (.ok a h) = .ok a h := rfl
@[simp] theorem noEx_ex {α : Type} (x : PX) (h : IH) : noEx (.ex x h : Res α) = .bad := rfl
@[simp] theorem noEx_bad {α : Type} : noEx (.bad : Res α) = .bad := rfl
/-- a def that lets no exception out -/
noncomputable def mkFn0 (fr : Bool) (n : Nat) (B : SF) : FnF := fun args ih => noEx (mkFn fr n B args ih)
theorem fin_noEx {fr : Bool} {ih : IH} {v : PV} {h : IH} : noEx (fin fr ih v h) = fin fr ih v h := by
  unfold fin
  split
  · split
    · split <;> rfl
    · rfl
  · rfl
theorem body_step0 {K : PySem.W.Frag} {mg : Str → Option Value} {H : Hp} {Q : VK} {E : XK} {N : List Str} {m : Nat} {fr : Bool} {B : SF} {vs : List V} (h : spF K mg m (mkFn0 fr N.length B) vs H Q E) : tS K mg W0 B { nx := fun _ H' => Q .non H', rt := Q } (L2.start N vs) H := by
  obtain ⟨_, th, rho, ih, args, C, r, P⟩ := h
  refine ⟨th, rho, env0 N.length args, ih, ⟨C, env0_ok r⟩, ?_⟩
  unfold mkFn0 mkFn at P
  cases hB : B (env0 N.length args) ih with
  | next a j => rw [hB] at P; simp only [fin_noEx] at P; exact fun th' σ' H' e R => fin_step C P e R.cells rfl
  | ret p j => rw [hB] at P; simp only [fin_noEx] at P; exact fun th' x H' e C' r' => fin_step C P e C' r'
  | ex x a j =>
    rw [hB] at P
    exfalso
    revert P
    simp only
    unfold finX
    split
    · split
      · exact id
      · exact id
    · exact id
  | brk a j => rw [hB] at P; exact P.elim
  | cont a j => rw [hB] at P; exact P.elim
  | bad => rw [hB] at P; exact P.elim
section
variable {P : Program} {w : World} {K : PySem.W.Frag} {mg : Str → Option Value} {base : Heap}
/-- THE RULE for a def that lets no exception out -/
theorem fn_ok {x qual : Str} {st : Stmt} {f : Addr} {fd : FuncData} {N ps : List Str} {k : Nat} {fr : Bool} {B : SF} (F : L2.Fun K x qual st f fd) (S : FnScope N ps (defScope st))
    (hbody : ∀ (cdv : Value) (A : Around) (outer : List Env) (s : Shared) (H : Hp) (E : XK), Room k (A.deeper (envOfC qual (defScope st) s.heap.objs.size f cdv)) →
      PSsf (cxOf CX0 P w K mg base N qual (defScope st) f cdv A outer s H E).nox W0 (defBody st) B) : FnOk P w K mg base CX0 (k + 1) f fd ps (spF K mg ps.length (mkFn0 fr N.length B)) :=
  F.ok S (fun vs H Q E h => h.1) fun cdv A outer s H vs Q E hr h => ⟨_, hbody cdv A outer s H E hr, body_step0 h⟩
/-- .. that may -/
theorem fn_okX {x qual : Str} {st : Stmt} {f : Addr} {fd : FuncData} {N ps : List Str} {k : Nat} {fr : Bool} {B : SF} (F : L2.Fun K x qual st f fd) (S : FnScope N ps (defScope st))
    (hbody : ∀ (cdv : Value) (A : Around) (outer : List Env) (s : Shared) (H : Hp) (E : XK), Room k (A.deeper (envOfC qual (defScope st) s.heap.objs.size f cdv)) →
      PSsf (cxOf (L2.CX P w) P w K mg base N qual (defScope st) f cdv A outer s H E) (fun c d _ H' => E c d H') (defBody st) B) : FnOk P w K mg base (L2.CX P w) (k + 1) f fd ps (spF K mg ps.length (mkFn fr N.length B)) :=
  F.okX S (fun vs H Q E h => h.1) fun cdv A outer s H vs Q E hr h => ⟨_, hbody cdv A outer s H E hr, body_step (fun _ _ _ _ z => z) h⟩
end

/-! ### calls of defs -/
/-- a call of a def that lets no exception out -/
def eFn0 (m : Nat) (F : FnF) (A : AF) : EF := fun env ih => (A env ih).bind fun ps h => if ps.length = m then noEx (F ps h) else .bad
def eFn (m : Nat) (F : FnF) (A : AF) : EF := fun env ih => (A env ih).bind fun ps h => if ps.length = m then F ps h else .bad
def permL {α : Type} (ix : List Nat) (l : List α) : List α := ix.filterMap fun i => l[i]?
def eFnK0 (m : Nat) (ix : List Nat) (F : FnF) (A : AF) : EF := fun env ih => (A env ih).bind fun ps h => if (permL ix ps).length = m then noEx (F (permL ix ps) h) else .bad
def eFnK (m : Nat) (ix : List Nat) (F : FnF) (A : AF) : EF := fun env ih => (A env ih).bind fun ps h => if (permL ix ps).length = m then F (permL ix ps) h else .bad
theorem Post.no {α β : Type} {K : PySem.W.Frag} {mg : Str → Option Value} {th rho : List Addr} {H : Hp} {rel : List Addr → Hp → α → β → Prop} {Q : β → Hp → Prop} {E E' : XK} {r : Res α} (h : Post K mg th rho H rel Q E (noEx r)) : Post K mg th rho H rel Q E' r := by
  cases r with
  | ok a i => exact h
  | ex x i => exact False.elim h
  | bad => exact h
theorem permL_rep {K th rho H} {ps : List PV} {vs : List V} (r : RepL K th rho H ps vs) : ∀ ix : List Nat, RepL K th rho H (permL ix ps) (permL ix vs)
  | [] => rfl
  | i :: ix => by
    have ih := permL_rep r ix
    unfold permL at ih ⊢
    rw [List.filterMap_cons, List.filterMap_cons]
    cases e : ps[i]? with
    | some p =>
      obtain ⟨v, h1, h2⟩ := r.get e
      rw [h1]
      exact ⟨v, _, rfl, h2, ih⟩
    | none =>
      have : vs[i]? = none := by
        rw [List.getElem?_eq_none_iff] at e ⊢
        rw [← r.length]; exact e
      rw [this]
      exact ih
theorem permL_vals {vs : List V} {us : List Value} (r : Vals vs us) : ∀ ix : List Nat, Vals (permL ix vs) (permL ix us)
  | [] => .nil
  | i :: ix => by
    have ih := permL_vals r ix
    unfold permL at ih ⊢
    rw [List.filterMap_cons, List.filterMap_cons]
    cases e : vs[i]? with
    | some p =>
      obtain ⟨v, h1, h2⟩ := r.get e
      rw [h1]
      exact .cons h2 ih
    | none => rw [r.none_of e]; exact ih
section
variable {X : Cx} {W : WX} {k m : Nat} {f : Addr} {fd : FuncData} {ps : List Str} {F : FnF} {x : Str} {p pos : Pos} {e : Expr} {es : List Expr} {A : AF}
theorem fcall (G : FnOk X.prog X.w X.K X.mg X.base CX0 k f fd ps (spF X.K X.mg m F)) (hr : Room k X.A) (hg : Gl X x) (hm : X.mg x = some (.ref f)) (hk : PySem.W.keepIn X.K (.ref f) = true) (hb : Binds X.K fd ps [])
    (ha : PAf X W (e :: es) A) (hdb : (x == ("__debug__" : Str)) = false := by decide) (he : starEach (e :: es) X.env = (false, eval e X.env) :: starEach es X.env := by rfl) (hpl : (backTo pos (starEach es X.env)).any (·.1) = false := by rfl) :
    PEf X W (.Call (.Name x p) (e :: es) [] pos) (eFn0 m F A) := by
  refine imE (pe_call G hr hg hm hk hb .nil pass0 ha hdb he hpl) fun σ H Q ⟨th, rho, env, ih, R, h⟩ => ?_
  refine ⟨th, rho, env, ih, R, Post.step h fun qs ih1 th1 xs H1 e1 C1 r1 h1 => ?_⟩
  by_cases hl : qs.length = m
  · rw [if_pos hl] at h1
    rw [List.append_nil]
    exact ⟨by rw [← r1.length]; exact hl, th1, rho, ih1, qs, C1, r1, h1.no⟩
  · rw [if_neg hl] at h1; exact h1.elim
theorem fcall0 (G : FnOk X.prog X.w X.K X.mg X.base CX0 k f fd ps (spF X.K X.mg 0 F)) (hr : Room k X.A) (hg : Gl X x) (hm : X.mg x = some (.ref f)) (hk : PySem.W.keepIn X.K (.ref f) = true) (hb : Binds X.K fd ps [])
    (hdb : (x == ("__debug__" : Str)) = false := by decide) : PEf X W (.Call (.Name x p) [] [] pos) (eFn0 0 F aNil) := by
  refine imE (pe_call0 G hr hg hm hk hb .nil pass0 hdb) fun σ H Q ⟨th, rho, env, ih, R, h⟩ => ?_
  exact ⟨rfl, th, rho, ih, [], R.cells, rfl, Post.no h⟩
/-- a call of a def that may let one out -/
theorem fcallX (G : FnOk X.prog X.w X.K X.mg X.base (L2.CX X.prog X.w) k f fd ps (spF X.K X.mg m F)) (hr : Room k X.A) (hg : Gl X x) (hm : X.mg x = some (.ref f)) (hk : PySem.W.keepIn X.K (.ref f) = true) (hb : Binds X.K fd ps []) (tk : Takes X W)
    (ha : PAf X W (e :: es) A) (hdb : (x == ("__debug__" : Str)) = false := by decide) (he : starEach (e :: es) X.env = (false, eval e X.env) :: starEach es X.env := by rfl) (hpl : (backTo pos (starEach es X.env)).any (·.1) = false := by rfl) :
    PEf X W (.Call (.Name x p) (e :: es) [] pos) (eFn m F A) := by
  refine imE (pe_callSD (E := fun σ c d H' => W c d σ H') G hr hg hm hk hb .nil (fun σ => passAt tk σ) ha hdb he hpl) fun σ H Q ⟨th, rho, env, ih, R, h⟩ => ?_
  refine ⟨th, rho, env, ih, R, Post.step h fun qs ih1 th1 xs H1 e1 C1 r1 h1 => ?_⟩
  by_cases hl : qs.length = m
  · rw [if_pos hl] at h1
    rw [List.append_nil]
    exact ⟨by rw [← r1.length]; exact hl, th1, rho, ih1, qs, C1, r1, h1⟩
  · rw [if_neg hl] at h1; exact h1.elim
/-- the values of keywords -/
abbrev PKf (X : Cx) (W : WX) (ks : List Keyword) (A : AF) : Prop := PK X ks (tA X.K X.mg W A)
theorem knil : PKf X W [] aNil := ⟨fun p pins s σ H Q I ⟨th, rho, env, ih, R, h⟩ => pk_nil.run p pins s σ H Q I (h.here R.cells rfl)⟩
theorem kcons {E : EF} {nm : Option Str} {kpos : Pos} {kws : List Keyword} (ha : PEf X W e E) (hr : PKf X W kws A) : PKf X W (⟨nm, e, kpos⟩ :: kws) (aCons E A) := by
  have h := pk_cons (nm := nm) (kpos := kpos) ha hr
  refine ⟨fun p pins s σ H Q I ⟨th, rho, env, ih, R, q⟩ => h.run p pins s σ H Q I ⟨th, rho, env, ih, R, Post.step q fun a ih1 th1 x H1 e1 C1 r1 h1 => ?_⟩⟩
  refine ⟨th1, rho, env, ih1, R.next e1 C1, Post.step h1 fun as ih2 th2 xs H2 e2 C2 r2 h2 => ?_⟩
  exact h2.here C2 ⟨x, xs, rfl, r1.next C1 e2, r2⟩
/-- f(k = v, ..): ix tells where each parameter's value stands among the keywords -/
theorem fcallK {kws : List Keyword} {ks : List Str} (ix : List Nat) (G : FnOk X.prog X.w X.K X.mg X.base CX0 k f fd ps (spF X.K X.mg m F)) (hr : Room k X.A) (hg : Gl X x) (hm : X.mg x = some (.ref f)) (hk : PySem.W.keepIn X.K (.ref f) = true)
    (hb : ∀ (s : Shared) (ws : List Value), ws.length = ks.length → BindsTo s fd ⟨[], ks.zip ws⟩ (ps.zip (permL ix ws)))
    (ha : PKf X W kws A) (hall : (backToKw pos (keywordEach kws X.env)).all (·.1.isSome) = true := by rfl) (hks : (backToKw pos (keywordEach kws X.env)).filterMap (·.1) = ks := by rfl) (hdb : (x == ("__debug__" : Str)) = false := by decide)
    (hpl : ((backTo pos (starEach [] X.env)).any (·.1) || (backToKw pos (keywordEach kws X.env)).any (·.1.isNone)) = false := by rfl) :
    PEf X W (.Call (.Name x p) [] kws pos) (eFnK0 m ix F (fun env ih => (A env ih).bind fun qs h => if qs.length = ks.length then .ok qs h else .bad)) := by
  refine ⟨fun pins s σ H Q I ⟨th, rho, env, ih, R, h⟩ => ?_⟩
  refine wpAny_Call_Name_kw (ld_glob I hg hm ?_ hdb)
  have h' : Post X.K X.mg th rho H (relV X.K rho) Q (fun c d H' => W c d σ H') ((A env ih).bind fun qs h => if qs.length = ks.length then (if (permL ix qs).length = m then noEx (F (permL ix qs) h) else .bad) else .bad) := by
    unfold eFnK0 at h
    dsimp only at h
    cases hA : A env ih with
    | ok qs h1 =>
      rw [hA] at h
      simp only [Res.bind_ok] at h ⊢
      by_cases hl : qs.length = ks.length
      · rw [if_pos hl] at h ⊢; exact h
      · rw [if_neg hl] at h; exact h.elim
    | ex x h1 => rw [hA] at h; exact h
    | bad => rw [hA] at h; exact h
  refine PySem.W.callWith_KW0 (h₀ := X.base) I.ok.mod.kin hk hall (thn (ha.run pos pins s σ H _ I ⟨th, rho, env, ih, R, Post.step (Q := fun zs H2 => zs.length = ks.length ∧ spF X.K X.mg m F (permL ix zs) H2 Q E0) h' fun qs ih1 th1 xs H1 e1 C1 r1 h1 => ?_⟩) fun ws s2 ⟨zs, H2, I2, rz, hl, q2⟩ => ⟨I2.kIn, ?_⟩) hpl
  · by_cases hl : qs.length = ks.length
    · rw [if_pos hl] at h1
      by_cases hl2 : (permL ix qs).length = m
      · rw [if_pos hl2] at h1
        have r2 := permL_rep r1 ix
        exact ⟨by rw [← r1.length]; exact hl, by rw [← r2.length]; exact hl2, th1, rho, ih1, _, C1, r2, h1.no⟩
      · rw [if_neg hl2] at h1; exact h1.elim
    · rw [if_neg hl] at h1; exact h1.elim
  · rw [hks]
    have r2 := permL_vals rz ix
    refine wpAny_call (codeAny_mono (G.run X.A X.stack s2 H2 ⟨[], ks.zip ws⟩ (permL ix ws) (permL ix zs) Q E0 hr I2.env0 (hb s2 ws (by rw [← rz.length]; exact hl)) r2 q2) fun r s' hq => ?_)
    cases r with
    | error e => exact False.elim hq
    | ok fl =>
      cases fl with
      | ret u => exact I2.after hq
      | next => exact False.elim hq
      | brk => exact False.elim hq
      | cont => exact False.elim hq
end

/-! ### a law -/
def spLaw (K : PySem.W.Frag) : Sp := fun vs H Q _ => ∃ (a : Addr) (ns : List Int), vs = [.ref a] ∧ SqL K H a (ns.map V.int) ∧ Only H ∧ ns.length ≤ 63 ∧ ∀ H', Q (.bl true) H'
theorem law_ok {P : Program} {w : World} {K : PySem.W.Frag} {mg : Str → Option Value} {base : Heap} {k : Nat} {f : Addr} {fd : FuncData} {F : FnF} (G : FnOk P w K mg base CX0 k f fd ["script"] (spF K mg 1 F))
    (hF : ∀ ns : List Int, ns.length ≤ 63 → ∃ h, F [.scr (ns.map PV.int)] [] = .ok (.bl true) h) : FnOk P w K mg base CX0 k f fd ["script"] (spLaw K) := by
  refine G.imp fun vs H Q E ⟨a, ns, e, hS, hO, hl, q⟩ => ?_
  subst e
  obtain ⟨h, hh⟩ := hF ns hl
  refine ⟨rfl, [], [], [], [.scr (ns.map PV.int)], ⟨rfl, List.nodup_nil, (fun a h => (nomatch h)), (fun n c e => (nomatch e)), (fun a h => (nomatch h))⟩, ⟨.ref a, [], rfl, ⟨a, _, rfl, ?_, repL_ints ns⟩, rfl⟩, ?_⟩
  · rcases hS with (hS | ⟨o, hS⟩) | hS
    · rcases hO a with z | ⟨o, xs, z⟩
      · rw [hS] at z; cases z
      · rw [hS] at z; cases z
    · exact .inl ⟨o, hS⟩
    · exact .inr hS
  · rw [hh]
    intro th' b H' e C r
    cases r
    exact q H'
end PF

set_option Elab.async false
set_option linter.all false
set_option maxRecDepth 100000
set_option maxHeartbeats 1000000
/-! PF: more words. -/
namespace PF
open PySem PySem.Spec PyProof.Rows L2
open Classical

/-! ### - a, constants of the module -/
def eNeg (F : EF) : EF := fun env ih => (F env ih).bind fun p h => ofOpt ((intOf p).map fun i => .int (-i)) h
section
variable {X : Cx} {W : WX} {a : Expr} {F : EF} {pos : Pos}
theorem fneg (ha : PEf X W a F) : PEf X W (.UnaryOp .USub a pos) (eNeg F) := by
  refine imE (pe_un un_neg ha) fun σ H Q ⟨th, rho, env, ih, R, h⟩ => ?_
  refine ⟨th, rho, env, ih, R, Post.step h fun p ih1 th1 x H1 e1 C1 r1 h1 => ?_⟩
  cases p <;> first | exact h1.elim | skip
  cases r1
  exact ⟨_, rfl, h1.here C1 rfl⟩
theorem fglobI {x : Str} {i : Int} (hg : Gl X x) (hm : ∃ t, X.mg x = some (.int i t)) (hd : (x == ("__debug__" : Str)) = false := by decide) : PEf X W (.Name x pos) (eC (.int i)) := by
  obtain ⟨t, hm⟩ := hm
  exact fglob (v := .int i) hg hm ⟨t, rfl⟩ (fun _ _ _ => rfl) hd
end

/-! ### a, b, c = x, y, z -/
def sPar3 (i j l : Nat) (A : AF) : SF := fun env ih => (A env ih).bindS env fun ps h => match ps with
  | [p, q, r] => .next (((env.set i (some p)).set j (some q)).set l (some r)) h
  | _ => .bad
theorem repl3 {K th rho H} {p q s : PV} {xs : List V} (r : RepL K th rho H [p, q, s] xs) : ∃ v u w, xs = [v, u, w] ∧ Rep K th rho H p v ∧ Rep K th rho H q u ∧ Rep K th rho H s w := by
  obtain ⟨v, vr, h1, h2, u, ur, h3, h4, w, wr, h5, h6, h7⟩ := r
  cases h7
  exact ⟨v, u, w, by rw [h1, h3, h5], h2, h4, h6⟩
theorem fpar3 {X : Cx} {W : WX} {i j l : Nat} {x y z : Str} {a b c : Expr} {A : AF} {px py pz pt pos : Pos} {kt k2 pt2} (hc : X.calm = true) (hN : X.N.Nodup) (ha : PAf X W [a, b, c] A) (hi : X.N[i]? = some x := by rfl) (hj : X.N[j]? = some y := by rfl) (hl : X.N[l]? = some z := by rfl)
    (hij : i ≠ j := by decide) (hil : i ≠ l := by decide) (hjl : j ≠ l := by decide)
    (hx : X.env.scope.names.lookup x = some .local := by rfl) (hy : X.env.scope.names.lookup y = some .local := by rfl) (hz : X.env.scope.names.lookup z = some .local := by rfl)
    (hw : swappedStores [.Tuple [.Name x px, .Name y py, .Name z pz] kt pt] (.Tuple [a, b, c] k2 pt2) X.env = pure (some [x, y, z]) := by rfl)
    (hs : swapsWithSole [.Tuple [.Name x px, .Name y py, .Name z pz] kt pt] (.Tuple [a, b, c] k2 pt2) pos.line X.env = pure false := by rfl) :
    PSf X W (.Assign [.Tuple [.Name x px, .Name y py, .Name z pz] kt pt] (.Tuple [a, b, c] k2 pt2) pos) (sPar3 i j l A) := by
  refine imS (ps_par3 hc hN hi hj hl hij hil hjl hx hy hz ha hw hs) fun D σ H ⟨th, rho, env, ih, R, h⟩ => ?_
  refine ⟨th, rho, env, ih, R, PostS.step R h fun ps ih1 th1 xs H1 e1 C1 r1 h1 => ?_⟩
  match ps, h1, r1 with
  | [p, q, r], h1, r1 =>
    obtain ⟨v, u, w, rfl, r2, r3, r4⟩ := repl3 r1
    exact ⟨v, u, w, rfl, h1 th1 _ H1 Ext.refl ⟨C1, (((R.next e1 C1).env.set r2).set r3).set r4⟩⟩
  | [], h1, _ => exact h1.elim
  | [_], h1, _ => exact h1.elim
  | [_, _], h1, _ => exact h1.elim
  | _ :: _ :: _ :: _ :: _, h1, _ => exact h1.elim

/-! ### xs + ys as a new cell -/
def eCatNew (F G : EF) : EF := fun env ih => (F env ih).bind fun p h1 => (G env h1).bind fun q h2 => match lstOf h2 p, lstOf h2 q with
  | some a, some b => if a.length + b.length ≤ sizeLine then .ok (.ref h2.length) (h2 ++ [.lst (a ++ b)]) else .bad
  | _, _ => .bad
theorem fcatNew {X : Cx} {W : WX} {a b : Expr} {F G : EF} {pos : Pos} (ha : PEf X W a F) (hb : PEf X W b G) : PEf X W (.BinOp a .Add b pos) (eCatNew F G) := by
  refine imE (pe_op op_cat ha hb) fun σ H Q ⟨th, rho, env, ih, R, h⟩ => ?_
  refine ⟨th, rho, env, ih, R, Post.step h fun p ih1 th1 x H1 e1 C1 r1 h1 => ?_⟩
  refine ⟨th1, rho, env, ih1, R.next e1 C1, Post.step h1 fun q ih2 th2 y H2 e2 C2 r2 h2 => ?_⟩
  cases ea : lstOf ih2 p with
  | none => rw [ea] at h2; exact h2.elim
  | some as =>
    cases eb : lstOf ih2 q with
    | none => rw [ea, eb] at h2; exact h2.elim
    | some bs =>
      rw [ea, eb] at h2
      simp only at h2
      obtain ⟨a1, xs, rfl, h3, h4⟩ := lst_at C2 (r1.next C1 e2) ea
      obtain ⟨b1, ys, rfl, h5, h6⟩ := lst_at C2 r2 eb
      split at h2
      · rename_i hh
        refine ⟨a1, b1, xs, ys, rfl, rfl, h3, h5, by rw [← h4.length, ← h6.length]; exact hh, fun l nl => ?_⟩
        have e4 : Ext th2 H2 (th2 ++ [l]) (upd H2 l (.lst (xs ++ ys))) := ext_cell nl
        exact h2 _ _ _ e4 (C2.cellNew nl ⟨_, rfl, (h4.append h6).next C2 e4⟩) ⟨l, rfl, by rw [← C2.len]; simp⟩
      · exact h2.elim

/-! ### text * int, list * int -/
def strRep (x : Str) (n : Int) : Str := ⟨(List.replicate n.toNat x.cps).foldl (· ++ ·) #[]⟩
def gMulS : OpG := fun _ p q => match p, q with
  | .str x, .int n => if n.natAbs < 2 ^ 63 ∧ x.length * n.toNat ≤ sizeLine then some (.str (strRep x n)) else none
  | _, _ => none
def gMulL : OpG := fun ih p q => match lstOf ih p, q with
  | some xs, .int k => if k.natAbs < 2 ^ 63 ∧ xs.length * k.toNat ≤ sizeLine then some (.lst (List.replicate k.toNat xs).flatten) else none
  | _, _ => none
theorem foldl_app (a : Array Nat) : ∀ (k : Nat) (acc : Array Nat), (List.foldl (· ++ ·) acc (List.replicate k a)).size = acc.size + k * a.size
  | 0, acc => by simp
  | k + 1, acc => by
    rw [List.replicate_succ, List.foldl_cons, foldl_app a k, Array.size_append, Nat.succ_mul]
    omega
theorem strRep_len (x : Str) (n : Int) : (strRep x n).length = n.toNat * x.length := by
  show (List.foldl (· ++ ·) #[] (List.replicate n.toNat x.cps)).size = _
  rw [foldl_app]
  simp [PySem.Str.length]
theorem foldl_nil : ∀ k : Nat, List.foldl (· ++ ·) (#[] : Array Nat) (List.replicate k #[]) = #[]
  | 0 => rfl
  | k + 1 => by rw [List.replicate_succ, List.foldl_cons]; exact foldl_nil k
section
variable {X : Cx}
theorem o_mulS : OpF X (binaryOp .Mult) gMulS := by
  refine ⟨fun x y H Q => ∃ z n, x = .str z ∧ y = .int n ∧ -(2 ^ 63) ≤ n ∧ n < 2 ^ 63 ∧ z.length * n.toNat ≤ sizeLine ∧ Q (.str (strRep z n)) H, ?_, ?_⟩
  · intro pins s σ H x y v u Q I rx ry h
    obtain ⟨z, n, rfl, rfl, h1, h2, h3, q⟩ := h
    obtain ⟨t, rfl⟩ := rx
    obtain ⟨t', rfl⟩ := ry
    have hs : sizeLine = 16777216 := sizeLine_eq
    refine PySem.P.mul_str ?_ (fun k1 _ => ?_) (fun _ _ => ?_) ?_
    · have a1 : ¬ n < -(2 ^ 63 : Int) := by omega
      have a2 : ¬ n ≥ 2 ^ 63 := by omega
      rw [decide_eq_false a1, decide_eq_false a2]; rfl
    · have hn : 0 < n := by omega
      intro hgt
      have e1 : (z.length : Int) * n ≤ 16777216 := by
        have : ((z.length * n.toNat : Nat) : Int) ≤ ((16777216 : Nat) : Int) := by rw [← hs]; exact Int.ofNat_le.mpr h3
        rw [Int.natCast_mul] at this
        have e2 : ((n.toNat : Nat) : Int) = n := by omega
        rw [e2] at this
        exact this
      have e3 : (z.length : Int) ≤ (2 ^ 63 - 1) / n := by
        apply Int.le_ediv_of_mul_le hn
        omega
      omega
    · show decide _ = false
      apply decide_eq_false
      omega
    · by_cases c1 : n < 1
      · rw [if_pos c1]
        refine ⟨by decide, .str (strRep z n), H, I.tok _, ⟨s.toks, ?_⟩, q⟩
        have e0 : n.toNat = 0 := by omega
        unfold strRep
        rw [e0]
        rfl
      · rw [if_neg c1]
        by_cases c2 : (n == 1 || z.length == 0) = true
        · rw [if_pos c2]
          refine ⟨.str (strRep z n), H, I, ⟨t, ?_⟩, q⟩
          have : strRep z n = z := by
            unfold strRep
            rw [Bool.or_eq_true] at c2
            rcases c2 with c2 | c2
            · have := eq_of_beq c2
              subst this
              show (⟨#[] ++ z.cps⟩ : Str) = z
              simp
            · have hz : z.cps = #[] := by
                have := eq_of_beq c2
                exact Array.size_eq_zero_iff.mp this
              rw [hz, foldl_nil]
              cases z
              simp at hz
              rw [hz]
          rw [this]
        · rw [if_neg c2]
          refine ⟨?_, .str (strRep z n), H, I.tok _, ⟨_, rfl⟩, q⟩
          show (strRep z n).length ≤ sizeLine
          rw [strRep_len, Nat.mul_comm]
          exact h3
  · refine OpS.flat fun th rho H ih p q x y z Q C rp rq hz hQ => ?_
    unfold gMulS at hz
    split at hz
    · cases rp; cases rq
      split at hz
      · rename_i hc; cases hz; exact ⟨_, _, rfl, rfl, by omega, by omega, hc.2, hQ _ rfl⟩
      · cases hz
    · cases hz
theorem repL_rep {K th rho H} {ps : List PV} {vs : List V} (r : RepL K th rho H ps vs) : ∀ k : Nat, RepL K th rho H (List.replicate k ps).flatten (List.replicate k vs).flatten
  | 0 => rfl
  | k + 1 => by rw [List.replicate_succ, List.replicate_succ, List.flatten_cons, List.flatten_cons]; exact r.append (repL_rep r k)
theorem o_mulL : OpF X (binaryOp .Mult) gMulL := by
  refine ⟨_, op_rep, fun th rho H ih p q x y z Q C rp rq hz hQ => ?_⟩
  unfold gMulL at hz
  split at hz
  · rename_i xs k h1
    cases rq
    obtain ⟨a, vs, rfl, h3, h4⟩ := lst_at C rp h1
    split at hz
    · rename_i hc
      cases hz
      refine ⟨a, k, vs, rfl, rfl, h3, by omega, by omega, by rw [← h4.length]; exact hc.2, fun l nl => ?_⟩
      have e4 : Ext th H th (upd H l (.lst (List.replicate k.toNat vs).flatten)) := ext_new nl
      exact hQ _ _ e4 (C.new nl) ⟨l, _, rfl, ⟨upd_same, C.nth nl, C.nrho nl⟩, (repL_rep h4 _).next C e4⟩
    · cases hz
  · cases hz
def gMul : OpG := orG gMulI (orG gMulS gMulL)
theorem o_mul : OpF X (binaryOp .Mult) gMul := o_mulI.or (o_mulS.or o_mulL)
def gMaxA : CaG := orC gMax2 gMax
def gMinA : CaG := orC gMin2 gMin
theorem c_max (hc : X.calm = true) : CallF X (.builtin "max") gMaxA := (c_max2 hc).or (c_max1 hc)
theorem c_min (hc : X.calm = true) : CallF X (.builtin "min") gMinA := (c_min2 hc).or (c_min1 hc)
def gIntA : CaG := orC gInt gIntS
def gStrA : CaG := orC gStr gStrS
theorem c_intA : CallF X (.type "int") gIntA := c_int.or c_intS
theorem c_strA : CallF X (.type "str") gStrA := c_str.or c_strS
end

/-! ### a dict of the module: text keys, ints -/
def TabOf : List DictEntry → List (Str × Int) → Prop
  | [], l => l = []
  | e :: es, l => ∃ x i r t u, l = (x, i) :: r ∧ e.key = .str x t ∧ e.val = .int i u ∧ TabOf es r
def KTab (K : PySem.W.Frag) (mg : Str → Option Value) (w : World) (x : Str) (tab : List (Str × Int)) : Prop :=
  ∃ d es n, mg x = some (.ref d) ∧ K.lookup d = some ⟨.type "dict", none, .dict es n, #[]⟩ ∧ PySem.W.KeysLit w.params es.toList ∧ (d == sysModules) = false ∧ TabOf es.toList tab
theorem tab_find : ∀ {es : List DictEntry} {tab : List (Str × Int)} (z : Str), TabOf es tab → (∀ i, tab.lookup z = some i → ∃ e u, es.find? (fun e => e.key.isStr z) = some e ∧ e.val = .int i u) ∧ (tab.lookup z = none → es.find? (fun e => e.key.isStr z) = none) ∧ es.any (·.refKey) = false
  | [], _, z, h => by
    cases h
    exact ⟨fun i h => by simp at h, fun _ => rfl, rfl⟩
  | e :: es, _, z, ⟨x, i, r, t, u, h1, h2, h3, h4⟩ => by
    subst h1
    obtain ⟨a1, a2, a3⟩ := tab_find z h4
    have hr : e.refKey = false := by unfold DictEntry.refKey; rw [h2]
    refine ⟨fun j hj => ?_, fun hj => ?_, by simp [hr, a3]⟩
    · rw [List.lookup_cons] at hj
      rw [List.find?_cons]
      by_cases hz : z = x
      · subst hz
        have : e.key.isStr z = true := by rw [h2]; simp [Value.isStr]
        rw [this]
        simp at hj
        subst hj
        exact ⟨e, u, rfl, h3⟩
      · have h5 : (z == x) = false := beq_eq_false_iff_ne.mpr hz
        have h6 : e.key.isStr z = false := by rw [h2]; simp [Value.isStr]; exact fun q => hz q.symm
        rw [h5] at hj
        rw [h6]
        exact a1 j hj
    · rw [List.lookup_cons] at hj
      rw [List.find?_cons]
      by_cases hz : z = x
      · subst hz; simp at hj
      · have h5 : (z == x) = false := beq_eq_false_iff_ne.mpr hz
        have h6 : e.key.isStr z = false := by rw [h2]; simp [Value.isStr]; exact fun q => hz q.symm
        rw [h5] at hj
        rw [h6]
        exact a2 hj
theorem tab_ns {K : PySem.W.Frag} {d : Addr} {es : Array DictEntry} {n : Nat} {tab : List (Str × Int)} (hl : K.lookup d = some ⟨.type "dict", none, .dict es n, #[]⟩) (ht : TabOf es.toList tab) (z : Str) :
    (∀ i, tab.lookup z = some i → ∃ u, PySem.W.nsIn K d z = some (some (.int i u))) ∧ (tab.lookup z = none → PySem.W.nsIn K d z = some none) := by
  obtain ⟨a1, a2, a3⟩ := tab_find z ht
  unfold PySem.W.nsIn
  rw [hl]
  dsimp only
  refine ⟨fun i hi => ?_, fun hn => ?_⟩
  · obtain ⟨e, u, h1, h2⟩ := a1 i hi
    rw [h1]
    exact ⟨u, by rw [← h2]⟩
  · rw [a2 hn]
    dsimp only
    rw [a3]
    rfl
def inTab (tab : List (Str × Int)) (neg : Bool) : PV → Option Bool
  | .str z => some (if neg then !(tab.lookup z).isSome else (tab.lookup z).isSome)
  | _ => none
def tInTab (tab : List (Str × Int)) (neg : Bool) (F : EF) : TF := fun env ih => (F env ih).bind fun p h => ofOpt (inTab tab neg p) h
def ixTab (tab : List (Str × Int)) : PV → Option PV
  | .str z => (tab.lookup z).map .int
  | _ => none
def eIxTab (tab : List (Str × Int)) (F : EF) : EF := fun env ih => (F env ih).bind fun p h => ofOpt (ixTab tab p) h
section
variable {X : Cx} {W : WX} {a : Expr} {F : EF} {x : Str} {p pos : Pos} {tab : List (Str × Int)}
theorem ftInTab (T : KTab X.K X.mg X.w x tab) (hg : Gl X x) (ha : PEf X W a F) (hd : (x == ("__debug__" : Str)) = false := by decide) : PTf X W (.Compare a [.In] [.Name x p] pos) (tInTab tab false F) := by
  obtain ⟨d, es, n, h1, h2, h3, h4, h5⟩ := T
  refine imT (pt_cmpR (op_in_kd ⟨h2, h3, h4⟩) ha (pe_glob (v := .ref d) hg h1 rfl hd) (by rfl)) fun σ H Q ⟨th, rho, env, ih, R, h⟩ => ?_
  refine ⟨th, rho, env, ih, R, Post.step h fun q ih1 th1 y H1 e1 C1 r1 hq => ?_⟩
  cases q <;> first | exact hq.elim | skip
  rename_i z
  cases r1
  obtain ⟨a1, a2⟩ := tab_ns h2 h5 z
  cases e : tab.lookup z with
  | some i =>
    obtain ⟨u, hu⟩ := a1 i e
    refine ⟨z, _, rfl, rfl, hu, _, rfl, ?_⟩
    have := hq.here C1 rfl
    rw [e] at this
    exact this
  | none =>
    refine ⟨z, _, rfl, rfl, a2 e, _, rfl, ?_⟩
    have := hq.here C1 rfl
    rw [e] at this
    exact this
theorem ftNotInTab (T : KTab X.K X.mg X.w x tab) (hg : Gl X x) (ha : PEf X W a F) (hd : (x == ("__debug__" : Str)) = false := by decide) : PTf X W (.Compare a [.NotIn] [.Name x p] pos) (tInTab tab true F) := by
  obtain ⟨d, es, n, h1, h2, h3, h4, h5⟩ := T
  refine imT (pt_cmpR (op_notIn_kd ⟨h2, h3, h4⟩) ha (pe_glob (v := .ref d) hg h1 rfl hd) (by rfl)) fun σ H Q ⟨th, rho, env, ih, R, h⟩ => ?_
  refine ⟨th, rho, env, ih, R, Post.step h fun q ih1 th1 y H1 e1 C1 r1 hq => ?_⟩
  cases q <;> first | exact hq.elim | skip
  rename_i z
  cases r1
  obtain ⟨a1, a2⟩ := tab_ns h2 h5 z
  cases e : tab.lookup z with
  | some i =>
    obtain ⟨u, hu⟩ := a1 i e
    refine ⟨z, _, rfl, rfl, hu, _, rfl, ?_⟩
    have := hq.here C1 rfl
    rw [e] at this
    exact this
  | none =>
    refine ⟨z, _, rfl, rfl, a2 e, _, rfl, ?_⟩
    have := hq.here C1 rfl
    rw [e] at this
    exact this
theorem fixTab (T : KTab X.K X.mg X.w x tab) (hg : Gl X x) (ha : PEf X W a F) (hd : (x == ("__debug__" : Str)) = false := by decide) (hs : PlainIx a := by exact fun _ _ => rfl) : PEf X W (.Subscript (.Name x p) a pos) (eIxTab tab F) := by
  obtain ⟨d, es, n, h1, h2, h3, h4, h5⟩ := T
  refine imE (pe_ix ix_kdict (pe_glob (v := .ref d) hg h1 rfl hd) ha hs) fun σ H Q ⟨th, rho, env, ih, R, h⟩ => ?_
  refine ⟨th, rho, env, ih, R, Post.step h fun q ih1 th1 y H1 e1 C1 r1 hq => ?_⟩
  cases q <;> first | exact hq.elim | skip
  rename_i z
  cases r1
  obtain ⟨a1, a2⟩ := tab_ns h2 h5 z
  cases e : tab.lookup z with
  | some i =>
    obtain ⟨u, hu⟩ := a1 i e
    unfold ixTab at hq
    simp only [e] at hq
    exact ⟨d, z, .int i, rfl, rfl, ⟨es, n, _, h2, h3, hu, u, rfl⟩, hq.here C1 rfl⟩
  | none =>
    unfold ixTab at hq
    simp only [e] at hq
    exact hq.elim
end
end PF

set_option Elab.async false
set_option linter.all false
set_option maxRecDepth 100000
set_option maxHeartbeats 1000000
/-! PF: what a plain function gives, step by step. -/
namespace PF
open PySem PySem.Spec PyProof.Rows L2
open Classical

/-- it ends well, with Q -/
def Res.wp {α : Type} (r : Res α) (Q : α → IH → Prop) : Prop := match r with
  | .ok a h => Q a h
  | _ => False
def SRes.wp (r : SRes) (N : EnvP → IH → Prop) (R : PV → IH → Prop) (B C : EnvP → IH → Prop) : Prop := match r with
  | .next e h => N e h
  | .ret v h => R v h
  | .brk e h => B e h
  | .cont e h => C e h
  | _ => False
section
variable {α β : Type} {Q Q' : α → IH → Prop} {N : EnvP → IH → Prop} {R : PV → IH → Prop} {B C : EnvP → IH → Prop}
theorem wp_ok (a : α) (h : IH) : (Res.ok a h).wp Q = Q a h := rfl
theorem wp_bad : (Res.bad : Res α).wp Q = False := rfl
theorem wp_ex (x : PX) (h : IH) : (Res.ex x h : Res α).wp Q = False := rfl
theorem wp_bind (r : Res α) (f : α → IH → Res β) {Q : β → IH → Prop} : (r.bind f).wp Q = r.wp fun a h => (f a h).wp Q := by cases r <;> rfl
theorem wp_bindS (r : Res α) (env : EnvP) (f : α → IH → SRes) : (r.bindS env f).wp N R B C = r.wp fun a h => (f a h).wp N R B C := by cases r <;> rfl
theorem wp_ite (c : Prop) [Decidable c] (a b : Res α) : (if c then a else b).wp Q = if c then a.wp Q else b.wp Q := by split <;> rfl
theorem wpS_ite (c : Prop) [Decidable c] (a b : SRes) : (if c then a else b).wp N R B C = if c then a.wp N R B C else b.wp N R B C := by split <;> rfl
theorem wp_noEx (r : Res α) : (noEx r).wp Q = r.wp Q := by cases r <;> rfl
theorem Res.wp.mono {r : Res α} (h : r.wp Q) (f : ∀ a h, Q a h → Q' a h) : r.wp Q' := by
  cases r with
  | ok a i => exact f a i h
  | _ => exact h
theorem Res.wp.get {r : Res α} (h : r.wp Q) : ∃ a i, r = .ok a i ∧ Q a i := by
  cases r with
  | ok a i => exact ⟨a, i, rfl, h⟩
  | _ => exact h.elim
theorem wp_of {r : Res α} {a : α} {i : IH} (e : r = .ok a i) (h : Q a i) : r.wp Q := by subst e; exact h
theorem wpS_next (e : EnvP) (h : IH) : (SRes.next e h).wp N R B C = N e h := rfl
theorem wpS_ret (e : PV) (h : IH) : (SRes.ret e h).wp N R B C = R e h := rfl
theorem wpS_brk (e : EnvP) (h : IH) : (SRes.brk e h).wp N R B C = B e h := rfl
theorem wpS_cont (e : EnvP) (h : IH) : (SRes.cont e h).wp N R B C = C e h := rfl
theorem wpS_bad : SRes.bad.wp N R B C = False := rfl
theorem wpS_ex (x : PX) (e : EnvP) (h : IH) : (SRes.ex x e h).wp N R B C = False := rfl
theorem SRes.wp.mono {r : SRes} {N' : EnvP → IH → Prop} {R' : PV → IH → Prop} {B' C' : EnvP → IH → Prop} (h : r.wp N R B C) (f1 : ∀ a h, N a h → N' a h) (f2 : ∀ a h, R a h → R' a h) (f3 : ∀ a h, B a h → B' a h) (f4 : ∀ a h, C a h → C' a h) : r.wp N' R' B' C' := by
  cases r with
  | next a i => exact f1 a i h
  | ret a i => exact f2 a i h
  | brk a i => exact f3 a i h
  | cont a i => exact f4 a i h
  | _ => exact h
theorem wp_seq (F G : SF) (env : EnvP) (h : IH) : (sSeq F G env h).wp N R B C = (F env h).wp (fun e h => (G e h).wp N R B C) R B C := by
  unfold sSeq
  cases F env h <;> rfl
theorem wp_fn0 (fr : Bool) (n : Nat) (S : SF) (args : List PV) (ih : IH) {Q : PV → IH → Prop} : (mkFn0 fr n S args ih).wp Q = (S (env0 n args) ih).wp (fun _ h => (fin fr ih .non h).wp Q) (fun v h => (fin fr ih v h).wp Q) (fun _ _ => False) (fun _ _ => False) := by
  unfold mkFn0 mkFn
  cases S (env0 n args) ih with
  | next e h => simp only [SRes.wp, wp_noEx]
  | ret e h => simp only [SRes.wp, wp_noEx]
  | ex x e h =>
    simp only [SRes.wp, wp_noEx]
    unfold finX
    split
    · split <;> rfl
    · rfl
  | _ => rfl
/-! loops -/
/-- a loop by its invariant: I i before the i-th turn -/
theorem wp_forL {chk : IH → Prop} {G : GT} {S : SF} (I : Nat → EnvP → IH → Prop) : ∀ (xs : List PV) (i : Nat) (env : EnvP) (h : IH), I i env h → (∀ j env h, I j env h → chk h) →
    (∀ j x env h, xs[j]? = some x → I (i + j) env h → ∃ e, G h x env = some e ∧ (S e h).wp (I (i + j + 1)) R N (I (i + j + 1))) → (∀ env h, I (i + xs.length) env h → N env h) → (forL chk G S xs env h).wp N R B C
  | [], i, env, h, hi, hc, _, hd => by
    unfold forL
    rw [if_pos (hc _ _ _ hi)]
    exact hd env h hi
  | x :: xs, i, env, h, hi, hc, hs, hd => by
    unfold forL
    rw [if_pos (hc _ _ _ hi)]
    obtain ⟨e, h1, h2⟩ := hs 0 x env h rfl hi
    rw [h1]
    simp only
    have go : ∀ e' h', I (i + 1) e' h' → (forL chk G S xs e' h').wp N R B C := fun e' h' hi' =>
      wp_forL I xs (i + 1) e' h' hi' hc (fun j y env h hj hI => by
        have := hs (j + 1) y env h (by simpa using hj) (by rw [show i + (j + 1) = i + 1 + j by omega]; exact hI)
        rw [show i + (j + 1) + 1 = i + 1 + j + 1 by omega] at this
        exact this) (fun env h hI => hd env h (by rw [List.length_cons, show i + (xs.length + 1) = i + 1 + xs.length by omega]; exact hI))
    cases hS : S e h with
    | next e' h' => rw [hS] at h2; exact go e' h' h2
    | cont e' h' => rw [hS] at h2; exact go e' h' h2
    | brk e' h' => rw [hS] at h2; exact h2
    | ret v h' => rw [hS] at h2; exact h2
    | ex x e' h' => rw [hS] at h2; exact h2.elim
    | bad => rw [hS] at h2; exact h2.elim
/-- a comprehension by its invariant -/
theorem wp_lcL {chk : IH → Prop} {G : GT} {T : TF} {F : EF} {env : EnvP} {Q : List PV → IH → Prop} (I : Nat → List PV → IH → Prop) : ∀ (xs : List PV) (i : Nat) (acc : List PV) (h : IH), I i acc h → (∀ j acc h, I j acc h → chk h) →
    (∀ j x acc h, xs[j]? = some x → I (i + j) acc h → ∃ e, G h x env = some e ∧ (T e h).wp fun b h1 => if b then (F e h1).wp (fun p h2 => acc.length < sizeLine ∧ I (i + j + 1) (acc ++ [p]) h2) else I (i + j + 1) acc h1) →
    (∀ acc h, I (i + xs.length) acc h → Q acc h) → (lcL chk G T F env xs acc h).wp Q
  | [], i, acc, h, hi, hc, _, hd => by
    unfold lcL
    rw [if_pos (hc _ _ _ hi)]
    exact hd acc h hi
  | x :: xs, i, acc, h, hi, hc, hs, hd => by
    unfold lcL
    rw [if_pos (hc _ _ _ hi)]
    obtain ⟨e, h1, h2⟩ := hs 0 x acc h rfl hi
    rw [h1]
    simp only
    have go : ∀ acc' h', I (i + 1) acc' h' → (lcL chk G T F env xs acc' h').wp Q := fun acc' h' hi' =>
      wp_lcL I xs (i + 1) acc' h' hi' hc (fun j y acc h hj hI => by
        have := hs (j + 1) y acc h (by simpa using hj) (by rw [show i + (j + 1) = i + 1 + j by omega]; exact hI)
        rw [show i + (j + 1) + 1 = i + 1 + j + 1 by omega] at this
        exact this) (fun acc h hI => hd acc h (by rw [List.length_cons, show i + (xs.length + 1) = i + 1 + xs.length by omega]; exact hI))
    cases hT : T e h with
    | ok b h3 =>
      rw [hT] at h2
      simp only [Res.wp] at h2 ⊢
      cases b with
      | false => exact go acc h3 h2
      | true =>
        simp only [if_true] at h2 ⊢
        cases hF : F e h3 with
        | ok p h4 =>
          rw [hF] at h2
          simp only
          rw [if_pos h2.1]
          exact go _ h4 h2.2
        | ex x h4 => rw [hF] at h2; exact h2.elim
        | bad => rw [hF] at h2; exact h2.elim
    | ex x h3 => rw [hT] at h2; exact h2.elim
    | bad => rw [hT] at h2; exact h2.elim
/-- a comprehension whose test and element change nothing: the list of what they give -/
theorem lcL_pure {chk : IH → Prop} {G : GT} {T : TF} {F : EF} {env : EnvP} {h : IH} (hc : chk h) (keep : PV → Bool) (f : PV → PV) : ∀ (xs acc : List PV),
    (∀ x ∈ xs, ∃ e, G h x env = some e ∧ T e h = .ok (keep x) h ∧ (keep x = true → F e h = .ok (f x) h)) → acc.length + xs.length < sizeLine → lcL chk G T F env xs acc h = .ok (acc ++ (xs.filter keep).map f) h
  | [], acc, _, _ => by unfold lcL; rw [if_pos hc]; simp
  | x :: xs, acc, hs, hl => by
    unfold lcL
    rw [if_pos hc]
    obtain ⟨e, h1, h2, h3⟩ := hs x List.mem_cons_self
    rw [h1]
    simp only
    rw [h2]
    simp only
    rw [List.length_cons] at hl
    cases hk : keep x with
    | false =>
      rw [if_neg Bool.false_ne_true, lcL_pure hc keep f xs acc (fun y hy => hs y (List.mem_cons_of_mem _ hy)) (by omega)]
      simp [hk]
    | true =>
      rw [if_pos rfl, h3 hk]
      simp only
      rw [if_pos (by omega), lcL_pure hc keep f xs (acc ++ [f x]) (fun y hy => hs y (List.mem_cons_of_mem _ hy)) (by simp; omega)]
      simp [hk]
end

/-! ### variables -/
theorem eVar_zero (p : PV) (e : EnvP) (h : IH) : eVar 0 (some p :: e) h = .ok p h := rfl
theorem eVar_succ (i : Nat) (x : Option PV) (e : EnvP) (h : IH) : eVar (i + 1) (x :: e) h = eVar i e h := by
  unfold eVar
  rw [List.getElem?_cons_succ]

/-! ### operators on known shapes -/
section
variable (ih : IH) (i j : Int) (x y : Str) (xs ys : List PV)
theorem gAdd_int : gAdd ih (.int i) (.int j) = some (.int (i + j)) := rfl
theorem gSub_int : gSub ih (.int i) (.int j) = some (.int (i - j)) := rfl
theorem gMul_int : gMul ih (.int i) (.int j) = if cMul i j = true then some (.int (i * j)) else none := by
  show (match (if cMul i j = true then some (PV.int (i * j)) else none) with | some z => some z | none => none) = _
  by_cases h : cMul i j = true
  · simp only [if_pos h]
  · simp only [if_neg h]
theorem gMul_str : gMul ih (.str x) (.int j) = if j.natAbs < 2 ^ 63 ∧ x.length * j.toNat ≤ sizeLine then some (.str (strRep x j)) else none := by
  show (match (if j.natAbs < 2 ^ 63 ∧ x.length * j.toNat ≤ sizeLine then some (PV.str (strRep x j)) else none) with | some z => some z | none => none) = _
  by_cases h : j.natAbs < 2 ^ 63 ∧ x.length * j.toNat ≤ sizeLine
  · simp only [if_pos h]
  · simp only [if_neg h]
theorem gDiv_int : gDiv ih (.int i) (.int j) = if cDiv i j = true then some (.int (i.fdiv j)) else none := rfl
theorem gMod_int : gMod ih (.int i) (.int j) = if cMod i j = true then some (.int (i.fmod j)) else none := rfl
theorem gPow_int : gPow ih (.int i) (.int j) = if cPow i j = true then some (.int (i ^ j.toNat)) else none := rfl
theorem gAdd_str : gAdd ih (.str x) (.str y) = if x.length + y.length ≤ sizeLine then some (.str (x ++ y)) else none := by
  show (match (if x.length + y.length ≤ sizeLine then some (PV.str (x ++ y)) else none) with | some z => some z | none => none) = _
  split <;> simp_all
theorem gAdd_tup : gAdd ih (.tup xs) (.tup ys) = if xs.length + ys.length ≤ sizeLine then some (.tup (xs ++ ys)) else none := by
  show (match (if xs.length + ys.length ≤ sizeLine then some (PV.tup (xs ++ ys)) else none) with | some z => some z | none => none) = _
  split <;> simp_all
theorem gAdd_lst : gAdd ih (.lst xs) (.lst ys) = if xs.length + ys.length ≤ sizeLine then some (.lst (xs ++ ys)) else none := rfl
theorem gLt_int : gLt ih (.int i) (.int j) = some (decide (i < j)) := rfl
theorem gLe_int : gLe ih (.int i) (.int j) = some (decide (i ≤ j)) := rfl
theorem gGt_int : gGt ih (.int i) (.int j) = some (decide (j < i)) := rfl
theorem gGe_int : gGe ih (.int i) (.int j) = some (decide (j ≤ i)) := rfl
theorem gEq_int : gEq ih (.int i) (.int j) = some (i == j) := by simp [gEq, dOf, PyData.eqv]
theorem gEq_str : gEq ih (.str x) (.str y) = some (x == y) := by simp [gEq, dOf, PyData.eqv]
theorem gEq_bl (a b : Bool) : gEq ih (.bl a) (.bl b) = some (a == b) := by simp [gEq, dOf, PyData.eqv]
theorem gNe_int : gNe ih (.int i) (.int j) = some (!(i == j)) := by simp [gNe, gEq_int]
theorem gNe_str : gNe ih (.str x) (.str y) = some (!(x == y)) := by simp [gNe, gEq_str]
theorem gNe_bl (a b : Bool) : gNe ih (.bl a) (.bl b) = some (!(a == b)) := by simp [gNe, gEq_bl]
theorem gIs_non : gIs ih .non .non = some true := rfl
theorem gIs_int : gIs ih (.int i) .non = some false := rfl
theorem gIs_str : gIs ih (.str x) .non = some false := rfl
theorem gIs_tup : gIs ih (.tup xs) .non = some false := rfl
theorem gIs_lst : gIs ih (.lst xs) .non = some false := rfl
theorem gIs_bl (b : Bool) : gIs ih (.bl b) .non = some false := rfl
theorem gIsNot_non : gIsNot ih .non .non = some false := rfl
theorem gIsNot_int : gIsNot ih (.int i) .non = some true := rfl
theorem gIsNot_tup : gIsNot ih (.tup xs) .non = some true := rfl
theorem gIx_tup : gIx ih (.tup xs) (.int i) = atI xs i := by
  show (match atI xs i with | some z => some z | none => none) = _
  cases atI xs i <;> rfl
theorem gIx_lst : gIx ih (.lst xs) (.int i) = atI xs i := by
  show (match atI xs i with | some z => some z | none => none) = _
  cases atI xs i <;> rfl
theorem gIx_scr : gIx ih (.scr xs) (.int i) = atI xs i := by
  show (match atI xs i with | some z => some z | none => none) = _
  cases atI xs i <;> rfl
theorem gIx_ref {n : Nat} (h : ih[n]? = some (.lst xs)) : gIx ih (.ref n) (.int i) = atI xs i := by
  unfold gIx orG gIxQ
  simp only [seqOf, lstOf, h]
  cases atI xs i <;> rfl
theorem gIx_str : gIx ih (.str x) (.int i) = if x.length ≤ sizeLine then (atI x.cps.toList i).map fun c => .str ⟨#[c]⟩ else none := rfl
theorem gLen_tup : gLen ih [.tup xs] = some (.int xs.length) := rfl
theorem gLen_lst : gLen ih [.lst xs] = some (.int xs.length) := rfl
theorem gLen_scr : gLen ih [.scr xs] = some (.int xs.length) := rfl
theorem gLen_ref {n : Nat} (h : ih[n]? = some (.lst xs)) : gLen ih [.ref n] = some (.int xs.length) := by
  unfold gLen
  simp only [seqOf, lstOf, h]
  rfl
theorem gLen_str : gLen ih [.str x] = if x.length ≤ sizeLine then some (.int x.length) else none := rfl
theorem gAbs_int : gAbs ih [.int i] = some (.int (if i < 0 then -i else i)) := rfl
theorem gIntA_int : gIntA ih [.int i] = some (.int i) := rfl
theorem gIntA_bl (b : Bool) : gIntA ih [.bl b] = some (.int (if b then 1 else 0)) := rfl
theorem gIntA_str : gIntA ih [.str x] = if x.length ≤ 640 then (PySem.intText? x).map .int else none := rfl
theorem gStrA_int : gStrA ih [.int i] = if i.natAbs.log2 < 1920 then some (.str (toString i)) else none := by
  show (match (if i.natAbs.log2 < 1920 then some (PV.str (toString i)) else none) with | some z => some z | none => none) = _
  split <;> simp_all
theorem gStrA_str : gStrA ih [.str x] = some (.str x) := rfl
theorem gMaxA_int : gMaxA ih [.int i, .int j] = some (.int (if j > i then j else i)) := rfl
theorem gMinA_int : gMinA ih [.int i, .int j] = some (.int (if j < i then j else i)) := rfl
theorem gTuple_tup : gTuple ih [.tup xs] = some (.tup xs) := rfl
theorem gTuple_lst : gTuple ih [.lst xs] = some (.tup xs) := rfl
theorem gTuple_ref {n : Nat} (h : ih[n]? = some (.lst xs)) : gTuple ih [.ref n] = some (.tup xs) := by
  unfold gTuple
  simp only [seqOf, lstOf, h]
  rfl
theorem gList_tup : gList ih [.tup xs] = some (.lst xs) := rfl
theorem gList_lst : gList ih [.lst xs] = some (.lst xs) := rfl
theorem gList_scr : gList ih [.scr xs] = some (.lst xs) := rfl
theorem gList_ref {n : Nat} (h : ih[n]? = some (.lst xs)) : gList ih [.ref n] = some (.lst xs) := by
  unfold gList
  simp only [seqOf, lstOf, h]
  rfl
theorem atI_zero (p : α) (l : List α) : atI (p :: l) 0 = some p := by simp [atI, ixN]
theorem atI_pos (l : List α) (k : Nat) : atI l (k : Int) = l[k]? := by
  unfold atI ixN
  by_cases h : k < l.length
  · simp [h]
  · simp [h] <;> omega
theorem atI_one (a b : α) (l : List α) : atI (a :: b :: l) 1 = some b := atI_pos (a :: b :: l) 1
theorem atI_two (a b c : α) (l : List α) : atI (a :: b :: c :: l) 2 = some c := atI_pos (a :: b :: c :: l) 2
theorem atI_three (a b c d : α) (l : List α) : atI (a :: b :: c :: d :: l) 3 = some d := atI_pos (a :: b :: c :: d :: l) 3
theorem atI_four (a b c d e : α) (l : List α) : atI (a :: b :: c :: d :: e :: l) 4 = some e := atI_pos (a :: b :: c :: d :: e :: l) 4
theorem atI_nn (l : List α) (k : Int) (h : 0 ≤ k) : atI l k = l[k.toNat]? := by
  have := atI_pos l k.toNat
  rwa [show ((k.toNat : Nat) : Int) = k by omega] at this
theorem cMod_pos {i j : Int} (h : 0 < j) : cMod i j = true := decide_eq_true (by omega)
theorem cDiv_pos {i j : Int} (h : 0 < j) (h2 : j < 1073741824) : cDiv i j = true := decide_eq_true (by omega)
theorem cMul_r {i j : Int} (h : -18446744073709551616 < j) (h2 : j < 18446744073709551616) : cMul i j = true := decide_eq_true (by omega)
theorem cMul_l {i j : Int} (h : -18446744073709551616 < i) (h2 : i < 18446744073709551616) : cMul i j = true := decide_eq_true (by omega)
theorem cPow_of {i j : Int} (h0 : 0 ≤ j) (h1 : j ≤ 1000000) (h2 : -18446744073709551616 < i) (h3 : i < 18446744073709551616) : cPow i j = true := decide_eq_true (by omega)
theorem fmod_pos {i j : Int} (h : 0 < j) : i.fmod j = i % j := Int.fmod_eq_emod_of_nonneg i (by omega)
theorem fdiv_pos {i j : Int} (h : 0 < j) : i.fdiv j = i / j := Int.fdiv_eq_ediv_of_nonneg i (by omega)
theorem ixN0 (n : Nat) : ixN (n + 1) 0 = some 0 := by unfold ixN; rw [if_pos (by omega), if_pos (by omega)]; rfl
theorem ixN1 (n : Nat) : ixN (n + 1 + 1) 1 = some 1 := by unfold ixN; rw [if_pos (by omega), if_pos (by omega)]; rfl
theorem ixN2 (n : Nat) : ixN (n + 1 + 1 + 1) 2 = some 2 := by unfold ixN; rw [if_pos (by omega), if_pos (by omega)]; rfl
theorem ixN3 (n : Nat) : ixN (n + 1 + 1 + 1 + 1) 3 = some 3 := by unfold ixN; rw [if_pos (by omega), if_pos (by omega)]; rfl
theorem ixN4 (n : Nat) : ixN (n + 1 + 1 + 1 + 1 + 1) 4 = some 4 := by unfold ixN; rw [if_pos (by omega), if_pos (by omega)]; rfl
theorem ixN5 (n : Nat) : ixN (n + 1 + 1 + 1 + 1 + 1 + 1) 5 = some 5 := by unfold ixN; rw [if_pos (by omega), if_pos (by omega)]; rfl
theorem setIx_ref {h : IH} {n : Nat} {xs : List PV} (e : h[n]? = some (.lst xs)) (k : Int) (z : PV) : setIx h (.ref n) (.int k) z = (ixN xs.length k).map fun j => h.set n (.lst (xs.set j z)) := by
  unfold setIx
  simp only [e]
/-! a cell that was just written -/
theorem at_set {h : IH} {n : Nat} {c : Cell} (e : n < h.length) : (h.set n c)[n]? = some c := List.getElem?_set_self e
theorem gIx_set {h : IH} {n : Nat} {xs : List PV} (e : n < h.length) (i : Int) : gIx (h.set n (.lst xs)) (.ref n) (.int i) = atI xs i := gIx_ref _ _ _ (at_set e)
theorem gLen_set {h : IH} {n : Nat} {xs : List PV} (e : n < h.length) : gLen (h.set n (.lst xs)) [.ref n] = some (.int xs.length) := gLen_ref _ _ (at_set e)
theorem setIx_set {h : IH} {n : Nat} {xs : List PV} (e : n < h.length) (k : Int) (z : PV) : setIx (h.set n (.lst xs)) (.ref n) (.int k) z = (ixN xs.length k).map fun j => h.set n (.lst (xs.set j z)) := by
  rw [setIx_ref (at_set e)]
  simp only [List.set_set]
theorem gAppend_ref {h : IH} {n : Nat} {xs : List PV} (e : h[n]? = some (.lst xs)) (q : PV) : gAppend h (.ref n) [q] = if xs.length < sizeLine then some (.non, h.set n (.lst (xs ++ [q]))) else none := by
  unfold gAppend
  simp only [e]
theorem gAppend_set {h : IH} {n : Nat} {xs : List PV} (e : n < h.length) (q : PV) : gAppend (h.set n (.lst xs)) (.ref n) [q] = if xs.length < sizeLine then some (.non, h.set n (.lst (xs ++ [q]))) else none := by
  rw [gAppend_ref (at_set e)]
  simp only [List.set_set]
theorem ixN_nn (n : Nat) (k : Int) (h : 0 ≤ k) (h2 : k < n) : ixN n k = some k.toNat := by
  unfold ixN
  rw [if_pos h, if_pos h2]
end
/-! ### a def's end -/
section
variable {ih : IH} {v : PV} {Q : PV → IH → Prop}
theorem oldOk_same {g : IH} : oldOk ih.length ih (ih ++ g) := fun m hm => .inl (by rw [List.getElem?_append_left hm])
theorem oldOk_set {r : Nat} {c : Cell} {g : IH} (hc : clC ih.length c = true) : oldOk ih.length ih (ih.set r c ++ g) := fun m hm => by
  rw [List.getElem?_append_left (by simpa using hm)]
  by_cases h : r = m
  · subst h
    right
    exact ⟨c, by rw [List.getElem?_set_self hm], hc⟩
  · left
    rw [List.getElem?_set_ne h]
theorem frz_cl {n : Nat} {h : IH} {k : Nat} (hc : clP n v = true) : frz n h k v = some v := by
  cases k with
  | zero => unfold frz; rw [if_pos hc]
  | succ k => unfold frz; rw [if_pos hc]
/-- nothing is changed, no cell is told -/
theorem fin_pure {g : IH} (hc : clP ih.length v = true) (h : Q v ih) : (fin true ih v (ih ++ g)).wp Q := by
  unfold fin
  rw [if_pos rfl, if_pos oldOk_same, frz_cl hc]
  show Q v ((ih ++ g).take ih.length)
  rw [List.take_left]
  exact h
theorem fin_pure0 (hc : clP ih.length v = true) (h : Q v ih) : (fin true ih v ih).wp Q := by
  have := fin_pure (g := []) hc h
  rwa [List.append_nil] at this
/-- one cell is changed -/
theorem fin_set {r : Nat} {c : Cell} {g : IH} (hv : clP ih.length v = true) (hc : clC ih.length c = true) (h : Q v (ih.set r c)) : (fin true ih v (ih.set r c ++ g)).wp Q := by
  unfold fin
  rw [if_pos rfl, if_pos (oldOk_set hc), frz_cl hv]
  show Q v ((ih.set r c ++ g).take ih.length)
  rw [show ih.length = (ih.set r c).length by simp, List.take_left]
  exact h
theorem fin_set0 {r : Nat} {c : Cell} (hv : clP ih.length v = true) (hc : clC ih.length c = true) (h : Q v (ih.set r c)) : (fin true ih v (ih.set r c)).wp Q := by
  have := fin_set (g := []) hv hc h
  rwa [List.append_nil] at this
end
/-! a heap with one cell of the caller's that changes, and cells of one's own -/
section
variable {H g : IH} {r : Nat} {c c' c0 : Cell} {v : PV} {Q : PV → IH → Prop}
theorem set_app (hr : r < H.length) : H.set r c ++ g = (H ++ g).set r c := by rw [List.set_append_left _ _ hr]
theorem fin_pool (hr : r < H.length) (hv : clP H.length v = true) (hc : clC H.length c = true) (h : Q v (H.set r c)) : (fin true (H.set r c0) v ((H ++ g).set r c)).wp Q := by
  have e : (H ++ g).set r c = (H.set r c0).set r c ++ g := by rw [List.set_set, set_app hr]
  rw [e]
  exact fin_set (by simpa using hv) (by simpa using hc) (by rw [List.set_set]; exact h)
theorem fin_pool0 (hr : r < H.length) (hv : clP H.length v = true) (hc : clC H.length c = true) (h : Q v (H.set r c)) : (fin true (H.set r c0) v (H.set r c)).wp Q := by
  have := fin_pool (g := []) (c0 := c0) hr hv hc h
  rwa [List.append_nil] at this
theorem at_loc0 (hr : r < H.length) : ((H ++ c' :: g).set r c)[H.length]? = some c' := by
  rw [List.getElem?_set_ne (by omega), List.getElem?_append_right (Nat.le_refl _)]
  simp
theorem at_loc1 {d : Cell} (hr : r < H.length) : ((H ++ d :: c' :: g).set r c)[H.length + 1]? = some c' := by
  rw [List.getElem?_set_ne (by omega), List.getElem?_append_right (by omega)]
  simp
theorem set_loc0 {x : Cell} (hr : r < H.length) : ((H ++ c' :: g).set r c).set H.length x = (H ++ x :: g).set r c := by
  rw [List.set_comm _ _ (by omega), List.set_append_right _ _ (Nat.le_refl _)]
  simp
theorem set_loc1 {x d : Cell} (hr : r < H.length) : ((H ++ d :: c' :: g).set r c).set (H.length + 1) x = (H ++ d :: x :: g).set r c := by
  rw [List.set_comm _ _ (by omega), List.set_append_right _ _ (by omega)]
  simp
theorem len_loc : ((H ++ g).set r c).length = H.length + g.length := by simp
theorem lt_app (hr : r < H.length) : r < (H ++ g).length := by simp; omega
end
/-! reading a cell -/
section
variable {h : IH} {n : Nat} {xs : List PV}
theorem cell_ix (e : h[n]? = some (.lst xs)) (i : Int) : gIx h (.ref n) (.int i) = atI xs i := gIx_ref _ _ _ e
end
end PF

set_option Elab.async false
set_option linter.all false
set_option maxRecDepth 100000
namespace PF
open PySem PySem.Spec PyProof.Rows L2
/-! texts -/
theorem map_toNat_inj : ∀ a b : List Char, a.map Char.toNat = b.map Char.toNat → a = b
  | [], [], _ => rfl
  | [], _ :: _, h => by cases h
  | _ :: _, [], h => by cases h
  | x :: a, y :: b, h => by
    simp only [List.map_cons, List.cons.injEq] at h
    rw [map_toNat_inj a b h.2]
    congr 1
    have h1 := h.1
    exact Char.ext (by unfold Char.toNat at h1; exact UInt32.toNat_inj.mp h1)
theorem txt_eq {a b : String} : (Str.ofString a = Str.ofString b) ↔ a = b := by
  constructor
  · intro h
    rw [Str.ofString_eq_toList, Str.ofString_eq_toList] at h
    have h2 : (a.toList.map Char.toNat).toArray = (b.toList.map Char.toNat).toArray := by injection h
    have h3 : a.toList.map Char.toNat = b.toList.map Char.toNat := by simpa using h2
    have h4 := map_toNat_inj _ _ h3
    rw [← String.ofList_toList (s := a), ← String.ofList_toList (s := b), h4]
  · rintro rfl; rfl
theorem txt_beq {a b : String} : (Str.ofString a == Str.ofString b) = decide (a = b) := by
  by_cases h : a = b
  · subst h; simp
  · have h2 : Str.ofString a ≠ Str.ofString b := fun e => h (txt_eq.mp e)
    simp [h, h2]
/-! sizes -/
theorem rngOk_of {j : Int} (h : -4611686018427387904 < j ∧ j < 4611686018427387904) : rngOk j = true := by unfold rngOk; exact decide_eq_true (by omega)
section
variable {ih : IH} {xs ys : List PV} {x y : Str} {i j : Int}
theorem gAdd_tupK (h : xs.length + ys.length ≤ 16777216) : gAdd ih (.tup xs) (.tup ys) = some (.tup (xs ++ ys)) := by rw [gAdd_tup, if_pos (by rw [sizeLine_eq]; omega)]
theorem gAdd_lstK (h : xs.length + ys.length ≤ 16777216) : gAdd ih (.lst xs) (.lst ys) = some (.lst (xs ++ ys)) := by rw [gAdd_lst, if_pos (by rw [sizeLine_eq]; omega)]
theorem gAdd_strK (h : x.length + y.length ≤ 16777216) : gAdd ih (.str x) (.str y) = some (.str (x ++ y)) := by rw [gAdd_str, if_pos (by rw [sizeLine_eq]; omega)]
theorem gLen_strK (h : x.length ≤ 16777216) : gLen ih [.str x] = some (.int x.length) := by rw [gLen_str, if_pos (by rw [sizeLine_eq]; omega)]
theorem gAppend_setK {h : IH} {n : Nat} (e : n < h.length) (q : PV) (hx : xs.length < 16777216) : gAppend (h.set n (.lst xs)) (.ref n) [q] = some (.non, h.set n (.lst (xs ++ [q]))) := by
  rw [gAppend_set e, if_pos (by rw [sizeLine_eq]; omega)]
end
/-! a cell of one's own at the end, with the pool at r -/
section
variable {H g : IH} {r : Nat} {c : Cell} {xs : List PV} {i : Int} {q z : PV}
theorem gAppend_L0 (hr : r < H.length) (hx : xs.length < 16777216) : gAppend ((H ++ .lst xs :: g).set r c) (.ref H.length) [q] = some (.non, (H ++ .lst (xs ++ [q]) :: g).set r c) := by
  rw [gAppend_ref (at_loc0 hr), if_pos (by rw [sizeLine_eq]; omega), set_loc0 hr]
theorem gTuple_L0 (hr : r < H.length) : gTuple ((H ++ .lst xs :: g).set r c) [.ref H.length] = some (.tup xs) := gTuple_ref _ _ (at_loc0 hr)
theorem gLen_L0 (hr : r < H.length) : gLen ((H ++ .lst xs :: g).set r c) [.ref H.length] = some (.int xs.length) := gLen_ref _ _ (at_loc0 hr)
theorem gIx_L0 (hr : r < H.length) : gIx ((H ++ .lst xs :: g).set r c) (.ref H.length) (.int i) = atI xs i := gIx_ref _ _ _ (at_loc0 hr)
theorem lstOf_L0 (hr : r < H.length) : lstOf ((H ++ .lst xs :: g).set r c) (.ref H.length) = some xs := by unfold lstOf; simp only [at_loc0 hr]
theorem itOf_L0 (hr : r < H.length) : itOf ((H ++ .lst xs :: g).set r c) (.ref H.length) = some ⟨xs, fun h => h[H.length]? = some (.lst xs)⟩ := by unfold itOf; simp only [at_loc0 hr]
theorem at_A0 : (H ++ c :: g)[H.length]? = some c := by simp
theorem at_A1 {d : Cell} : (H ++ d :: c :: g)[H.length + 1]? = some c := by
  rw [List.getElem?_append_right (by omega)]; simp
theorem set_A0 {x : Cell} : (H ++ c :: g).set H.length x = H ++ x :: g := by simp
theorem set_A1 {x d : Cell} : (H ++ d :: c :: g).set (H.length + 1) x = H ++ d :: x :: g := by
  rw [List.set_append_right _ _ (by omega)]; simp
theorem gAppend_A0 (hx : xs.length < 16777216) : gAppend (H ++ .lst xs :: g) (.ref H.length) [q] = some (.non, H ++ .lst (xs ++ [q]) :: g) := by
  rw [gAppend_ref at_A0, if_pos (by rw [sizeLine_eq]; omega), set_A0]
theorem gTuple_A0 : gTuple (H ++ .lst xs :: g) [.ref H.length] = some (.tup xs) := gTuple_ref _ _ at_A0
theorem gLen_A0 : gLen (H ++ .lst xs :: g) [.ref H.length] = some (.int xs.length) := gLen_ref _ _ at_A0
theorem gIx_A0 : gIx (H ++ .lst xs :: g) (.ref H.length) (.int i) = atI xs i := gIx_ref _ _ _ at_A0
theorem lstOf_A0 : lstOf (H ++ .lst xs :: g) (.ref H.length) = some xs := by simp [lstOf, at_A0]
theorem itOf_A0 : itOf (H ++ .lst xs :: g) (.ref H.length) = some ⟨xs, fun h => h[H.length]? = some (.lst xs)⟩ := by simp [itOf, at_A0]
end
theorem int_max {i j : Int} : (if j > i then j else i) = max i j := by omega
end PF

set_option Elab.async false
set_option linter.all false
set_option maxRecDepth 100000
namespace PF
open PySem PySem.Spec PyProof.Rows L2
theorem sizeK {n : Nat} (h : n ≤ 16777216) : (n ≤ sizeLine) = True := by rw [sizeLine_eq]; simp [h]
theorem isTy_ref {ih : IH} {n : Nat} (h : n < ih.length) : isTy "list" ih (.ref n) = true := by simp [isTy, h]
theorem isTy_lst {ih : IH} {xs : List PV} : isTy "list" ih (.lst xs) = true := rfl
theorem isTy_scr {ih : IH} {xs : List PV} : isTy "list" ih (.scr xs) = true := rfl
theorem isTy_str {ih : IH} {x : Str} : isTy "str" ih (.str x) = true := rfl
def rngR1 : List PV → IH → Res ItP := fun ps h => match ps with
  | [.int j] => if rngOk j then .ok (rngP 0 j) h else .bad
  | _ => .bad
def rngR2 : List PV → IH → Res ItP := fun ps h => match ps with
  | [.int i, .int j] => if rngOk i && rngOk j then .ok (rngP i j) h else .bad
  | _ => .bad
theorem rngR1_int (j : Int) (h : IH) : rngR1 [.int j] h = if rngOk j then .ok (rngP 0 j) h else .bad := rfl
theorem rngR2_int (i j : Int) (h : IH) : rngR2 [.int i, .int j] h = if rngOk i && rngOk j then .ok (rngP i j) h else .bad := rfl
/-- what is still to come: a name that hides it from the simplifier until its value is there -/
def Bnd {α β : Type} (f : α → IH → Res β) (Q : β → IH → Prop) : α → IH → Prop := fun a h => (f a h).wp Q
def BndS {α : Type} (f : α → IH → SRes) (N : EnvP → IH → Prop) (R : PV → IH → Prop) (B C : EnvP → IH → Prop) : α → IH → Prop := fun a h => (f a h).wp N R B C
def SqK (G : SF) (N : EnvP → IH → Prop) (R : PV → IH → Prop) (B C : EnvP → IH → Prop) : EnvP → IH → Prop := fun e h => (G e h).wp N R B C
def FinK (fr : Bool) (ih : IH) (Q : PV → IH → Prop) : PV → IH → Prop := fun v h => (fin fr ih v h).wp Q
def FinN (fr : Bool) (ih : IH) (Q : PV → IH → Prop) : EnvP → IH → Prop := fun _ h => (fin fr ih .non h).wp Q
def NoK : EnvP → IH → Prop := fun _ _ => False
section
variable {α β : Type} {Q : β → IH → Prop} {N : EnvP → IH → Prop} {R : PV → IH → Prop} {B C : EnvP → IH → Prop} {h ih : IH} {env : EnvP}
theorem bnd_app (f : α → IH → Res β) (a : α) : Bnd f Q a h = (f a h).wp Q := rfl
theorem bndS_app (f : α → IH → SRes) (a : α) : BndS f N R B C a h = (f a h).wp N R B C := rfl
theorem sqK_app (G : SF) (e : EnvP) : SqK G N R B C e h = (G e h).wp N R B C := rfl
theorem kbind (r : Res α) (f : α → IH → Res β) : (r.bind f).wp Q = r.wp (Bnd f Q) := by cases r <;> rfl
theorem kbindS (r : Res α) (f : α → IH → SRes) : (r.bindS env f).wp N R B C = r.wp (BndS f N R B C) := by cases r <;> rfl
theorem kseq (F G : SF) : (sSeq F G env h).wp N R B C = (F env h).wp (SqK G N R B C) R B C := wp_seq F G env h
end
section
variable {Q : PV → IH → Prop} {h : IH}
theorem kfn0 (fr : Bool) (n : Nat) (S : SF) (args : List PV) (ih : IH) : (mkFn0 fr n S args ih).wp Q = (S (env0 n args) ih).wp (FinN fr ih Q) (FinK fr ih Q) NoK NoK := wp_fn0 fr n S args ih
theorem finK_app (fr : Bool) (ih : IH) (v : PV) : FinK fr ih Q v h = (fin fr ih v h).wp Q := rfl
theorem finN_app (fr : Bool) (ih : IH) (e : EnvP) : FinN fr ih Q e h = (fin fr ih .non h).wp Q := rfl
theorem noK_app (e : EnvP) : NoK e h = False := rfl
end
section
variable {N : EnvP → IH → Prop} {R : PV → IH → Prop} {B C : EnvP → IH → Prop} {h : IH} {env : EnvP} {g g' : OpG} {gb gb' : OpGB} {cg : CaG} {mg : MeG} {F G E I : EF} {G' : EF} {A : AF} {S S' : SF} {T T' : TF} {lo hi : OFn} {i j l m n : Nat} {p : PV} {fn : FnF} {gt : GT} {it : IFn} {ty : String} {ix : List Nat} {ps : List Nat}
section
variable {Q : PV → IH → Prop}

theorem wp_eC  : (eC p env h).wp Q = (Res.ok p h).wp Q := rfl
theorem wp_eBin  : (eBin g F G env h).wp Q = ((F env h).bind fun p h1 => (G env h1).bind fun q h2 => ofOpt (g h2 p q) h2).wp Q := rfl
theorem wp_eCmp  : (eCmp gb F G env h).wp Q = ((F env h).bind fun p h1 => (G env h1).bind fun q h2 => ofOpt ((gb h2 p q).map PV.bl) h2).wp Q := rfl
theorem wp_eAnd  : (eAnd F G env h).wp Q = ((F env h).bind fun p h => (ofOpt (blOf p) h).bind fun b h => if b then G env h else .ok (.bl false) h).wp Q := rfl
theorem wp_eOr  : (eOr F G env h).wp Q = ((F env h).bind fun p h => (ofOpt (blOf p) h).bind fun b h => if b then .ok (.bl true) h else G env h).wp Q := rfl
theorem wp_eNot  : (eNot F env h).wp Q = ((F env h).bind fun p h => (ofOpt (blOf p) h).bind fun b h => .ok (.bl (!b)) h).wp Q := rfl
theorem wp_eIf  : (eIf T F G env h).wp Q = ((T env h).bind fun b h => if b then F env h else G env h).wp Q := rfl
theorem wp_eTup  : (eTup A env h).wp Q = ((A env h).bind fun ps h => if ps.length ≤ sizeLine then .ok (.tup ps) h else .bad).wp Q := rfl
theorem wp_eLst  : (eLst A env h).wp Q = ((A env h).bind fun ps h => if ps.length ≤ sizeLine then .ok (.lst ps) h else .bad).wp Q := rfl
theorem wp_eNew  : (eNew A env h).wp Q = ((A env h).bind fun ps h => if ps.length ≤ sizeLine then .ok (.ref h.length) (h ++ [Cell.lst ps]) else .bad).wp Q := rfl
theorem wp_eSl {sg : SlG} : (eSl sg F lo hi env h).wp Q = ((F env h).bind fun p h1 => (lo env h1).bind fun l h2 => (hi env h2).bind fun u h3 => ofOpt (sg h3 p l u) h3).wp Q := rfl
theorem wp_eCall  : (eCall cg A env h).wp Q = ((A env h).bind fun ps h => ofOpt (cg h ps) h).wp Q := rfl
theorem wp_eIsi  : (eIsi ty F env h).wp Q = ((F env h).bind fun p h => .ok (.bl (isB (tyP p) ty)) h).wp Q := rfl
theorem wp_eNeg  : (eNeg F env h).wp Q = ((F env h).bind fun p h => ofOpt ((intOf p).map fun i => .int (-i)) h).wp Q := rfl
theorem wp_eFn0  : (eFn0 m fn A env h).wp Q = ((A env h).bind fun ps h => if ps.length = m then noEx (fn ps h) else .bad).wp Q := rfl
theorem wp_eFn  : (eFn m fn A env h).wp Q = ((A env h).bind fun ps h => if ps.length = m then fn ps h else .bad).wp Q := rfl
theorem wp_eFnK0  : (eFnK0 m ix fn A env h).wp Q = ((A env h).bind fun ps h => if (permL ix ps).length = m then noEx (fn (permL ix ps) h) else .bad).wp Q := rfl
theorem wp_eFnK  : (eFnK m ix fn A env h).wp Q = ((A env h).bind fun ps h => if (permL ix ps).length = m then fn (permL ix ps) h else .bad).wp Q := rfl
theorem wp_eLc  : (eLc it gt T F ps env h).wp Q = ((it env h).bind fun it h => (lcL it.chk gt T F (wipeP env ps) it.xs [] h).bind fun ps h2 => .ok (.lst ps) h2).wp Q := rfl

theorem wp_eListNew : (eListNew A env h).wp Q = (A env h).wp (Bnd (fun ps h => match ps with
  | [p] => match seqOf h p with
    | some xs => .ok (.ref h.length) (h ++ [.lst xs])
    | none => .bad
  | _ => .bad) Q) := by rw [← kbind]; rfl
theorem wp_eCatNew : (eCatNew F G env h).wp Q = (F env h).wp (Bnd (fun p h1 => (G env h1).bind fun q h2 => match lstOf h2 p, lstOf h2 q with
  | some a, some b => if a.length + b.length ≤ sizeLine then .ok (.ref h2.length) (h2 ++ [.lst (a ++ b)]) else .bad
  | _, _ => .bad) Q) := by rw [← kbind]; rfl
theorem wp_eMe : (eMe ty mg F A env h).wp Q = (F env h).wp (Bnd (fun p h1 => if isTy ty h1 p then (A env h1).bind fun ps h2 => match mg h2 p ps with
  | some (z, h3) => .ok z h3
  | none => .bad
  else .bad) Q) := by rw [← kbind]; rfl
theorem wp_eMe0 : (eMe0 ty mg F env h).wp Q = (F env h).wp (Bnd (fun p h1 => if isTy ty h1 p then match mg h1 p [] with
  | some (z, h3) => .ok z h3
  | none => .bad
  else .bad) Q) := by rw [← kbind]; rfl
end
section
variable {Q : Bool → IH → Prop}

theorem wp_tCmp  : (PF.tCmp gb F G env h).wp Q = ((F env h).bind fun p h1 => (G env h1).bind fun q h2 => ofOpt (gb h2 p q) h2).wp Q := rfl
theorem wp_tTru  : (tTru F env h).wp Q = ((F env h).bind fun p h => ofOpt (trP h p) h).wp Q := rfl
theorem wp_tAndF  : (tAndF T T' env h).wp Q = ((T env h).bind fun b h => if b then T' env h else .ok false h).wp Q := rfl
theorem wp_tOrF  : (tOrF T T' env h).wp Q = ((T env h).bind fun b h => if b then .ok true h else T' env h).wp Q := rfl
theorem wp_tNotF  : (tNotF T env h).wp Q = ((T env h).bind fun b h => .ok (!b) h).wp Q := rfl
theorem wp_tYesF  : (tYesF env h).wp Q = (Res.ok true h).wp Q := rfl
theorem wp_tChainF  : (tChainF gb gb' F G G' env h).wp Q = ((F env h).bind fun p h1 => (G env h1).bind fun q h2 => (ofOpt (gb h2 p q) h2).bind fun b h3 => if b then (G' env h3).bind fun q' h4 => ofOpt (gb' h4 q q') h4 else .ok false h3).wp Q := rfl
end
section
variable {Q : List PV → IH → Prop}
theorem wp_aNil  : (aNil env h).wp Q = (Res.ok [] h).wp Q := rfl
theorem wp_aCons  : (aCons F A env h).wp Q = ((F env h).bind fun p h => (A env h).bind fun ps h => .ok (p :: ps) h).wp Q := rfl
end
section
variable {Q : Option Int → IH → Prop}
theorem wp_oNone  : (oNone env h).wp Q = (Res.ok none h).wp Q := rfl
theorem wp_oSome  : (oSome F env h).wp Q = ((F env h).bind fun p h => ofOpt ((intOf p).map some) h).wp Q := rfl
end
section
variable {Q : ItP → IH → Prop}
theorem wp_iSeq  : (iSeq F env h).wp Q = ((F env h).bind fun p h => ofOpt (itOf h p) h).wp Q := rfl
theorem wp_iEnumF : (iEnumF A env h).wp Q = (A env h).wp (Bnd (fun ps h => match ps with
  | [p] => ofOpt (enumOf h p) h
  | _ => .bad) Q) := by rw [← kbind]; rfl
theorem wp_iRng1F : (iRng1F A env h).wp Q = (A env h).wp (Bnd rngR1 Q) := by rw [← kbind]; rfl
theorem wp_iRng2F : (iRng2F A env h).wp Q = (A env h).wp (Bnd rngR2 Q) := by rw [← kbind]; rfl
end
theorem wp_sNext  : (sNext env h).wp N R B C = (SRes.next env h).wp N R B C := rfl
theorem wp_sIf  : (sIf T S S' env h).wp N R B C = ((T env h).bindS env fun b h => if b then S env h else S' env h).wp N R B C := rfl
theorem wp_sExpr  : (sExpr F env h).wp N R B C = ((F env h).bindS env fun _ h => .next env h).wp N R B C := rfl
theorem wp_sRet  : (sRet F env h).wp N R B C = ((F env h).bindS env fun p h => .ret p h).wp N R B C := rfl
theorem wp_sRetN  : (sRetN env h).wp N R B C = (SRes.ret .non h).wp N R B C := rfl
theorem wp_sBad  : (sBad env h).wp N R B C = (SRes.bad).wp N R B C := rfl
theorem wp_sBrk  : (sBrk env h).wp N R B C = (SRes.brk env h).wp N R B C := rfl
theorem wp_sCont  : (sCont env h).wp N R B C = (SRes.cont env h).wp N R B C := rfl
theorem wp_sSet  : (sSet i F env h).wp N R B C = ((F env h).bindS env fun p h => .next (env.set i (some p)) h).wp N R B C := rfl
theorem wp_sAug  : (sAug i g F env h).wp N R B C = ((eVar i env h).bindS env fun p h0 => (F env h0).bindS env fun q h => (ofOpt (g h p q) h).bindS env fun z h2 => .next (env.set i (some z)) h2).wp N R B C := rfl
theorem wp_sSub  : (sSub F I E env h).wp N R B C = ((E env h).bindS env fun z h1 => (F env h1).bindS env fun p h2 => (I env h2).bindS env fun q h3 => (ofOpt (setIx h3 p q z) h3).bindS env fun h4 _ => .next env h4).wp N R B C := rfl
theorem wp_sFor  : (sFor it gt S env h).wp N R B C = ((it env h).bindS env fun it h => forL it.chk gt S it.xs env h).wp N R B C := rfl
theorem wp_sAsg : (sAsg gt F env h).wp N R B C = (F env h).wp (BndS (fun p h => match gt h p env with
  | some e => .next e h
  | none => .bad) N R B C) := by rw [← kbindS (env := env)]; rfl
theorem wp_sPar : (sPar i j A env h).wp N R B C = (A env h).wp (BndS (fun ps h => match ps with
  | [p, q] => .next ((env.set i (some p)).set j (some q)) h
  | _ => .bad) N R B C) := by rw [← kbindS (env := env)]; rfl
theorem wp_sPar3 : (sPar3 i j l A env h).wp N R B C = (A env h).wp (BndS (fun ps h => match ps with
  | [p, q, r] => .next (((env.set i (some p)).set j (some q)).set l (some r)) h
  | _ => .bad) N R B C) := by rw [← kbindS (env := env)]; rfl
end
end PF

set_option Elab.async false
set_option linter.all false
set_option maxRecDepth 100000
namespace PF
open PySem PySem.Spec PyProof.Rows L2 TL
section
variable {ih H g : IH} {xs : List PV} {x y z : Str} {c : Nat} {r : Nat} {cl : Cell}
theorem trP_non : trP ih .non = some false := rfl
theorem trP_bl (b : Bool) : trP ih (.bl b) = some b := rfl
theorem trP_int (i : Int) : trP ih (.int i) = some (i != 0) := rfl
theorem trP_tup : trP ih (.tup xs) = some (!xs.isEmpty) := rfl
theorem trP_lst : trP ih (.lst xs) = some (!xs.isEmpty) := rfl
theorem trP_scr : trP ih (.scr xs) = some (!xs.isEmpty) := rfl
theorem trP_strK (h : x.length ≤ 16777216) : trP ih (.str x) = some ((x.length : Int) != 0) := by show (if x.length ≤ sizeLine then _ else _) = _; rw [if_pos (by rw [sizeLine_eq]; omega)]
theorem intOf_int (i : Int) : intOf (.int i) = some i := rfl
theorem blOf_bl (b : Bool) : blOf (.bl b) = some b := rfl
theorem tyP_non : tyP .non = "NoneType" := rfl
theorem tyP_bl (b : Bool) : tyP (.bl b) = "bool" := rfl
theorem tyP_int (i : Int) : tyP (.int i) = "int" := rfl
theorem tyP_str : tyP (.str x) = "str" := rfl
theorem tyP_tup : tyP (.tup xs) = "tuple" := rfl
theorem tyP_lst : tyP (.lst xs) = "list" := rfl
theorem tyP_ref (n : Nat) : tyP (.ref n) = "list" := rfl
theorem lstOf_lst : lstOf ih (.lst xs) = some xs := rfl
theorem seqOf_lst : seqOf ih (.lst xs) = some xs := rfl
theorem seqOf_tup : seqOf ih (.tup xs) = some xs := rfl
theorem seqOf_scr : seqOf ih (.scr xs) = some xs := rfl
theorem seqOf_ref (n : Nat) : seqOf ih (.ref n) = lstOf ih (.ref n) := rfl
theorem itOf_tup : itOf ih (.tup xs) = some ⟨xs, fun _ => True⟩ := rfl
theorem itOf_lst : itOf ih (.lst xs) = some ⟨xs, fun _ => True⟩ := rfl
theorem itOf_scr : itOf ih (.scr xs) = some ⟨xs, fun _ => True⟩ := rfl
theorem itOf_str : itOf ih (.str x) = some ⟨signs x, fun _ => True⟩ := rfl
theorem enumOf_lst : enumOf ih (.lst xs) = some ⟨xs.zipIdx.map fun q => .tup [.int q.2, q.1], fun _ => True⟩ := rfl
theorem enumOf_scr : enumOf ih (.scr xs) = some ⟨xs.zipIdx.map fun q => .tup [.int q.2, q.1], fun _ => True⟩ := rfl
theorem enumOf_ref (n : Nat) : enumOf ih (.ref n) = (itOf ih (.ref n)).map fun it => ⟨it.xs.zipIdx.map fun q => .tup [.int q.2, q.1], it.chk⟩ := rfl
theorem atI_gt {α : Type} (l : List α) (k : Nat) (h : k < l.length) : atI l (k : Int) = some (l[k]'h) := by rw [atI_pos, List.getElem?_eq_getElem h]
theorem isB_NoneType_tuple : isB "NoneType" "tuple" = false := by decide +kernel
theorem isB_NoneType_int : isB "NoneType" "int" = false := by decide +kernel
theorem isB_NoneType_bool : isB "NoneType" "bool" = false := by decide +kernel
theorem isB_NoneType_str : isB "NoneType" "str" = false := by decide +kernel
theorem isB_NoneType_list : isB "NoneType" "list" = false := by decide +kernel
theorem isB_bool_tuple : isB "bool" "tuple" = false := by decide +kernel
theorem isB_bool_int : isB "bool" "int" = true := by decide +kernel
theorem isB_bool_bool : isB "bool" "bool" = true := by decide +kernel
theorem isB_bool_str : isB "bool" "str" = false := by decide +kernel
theorem isB_bool_list : isB "bool" "list" = false := by decide +kernel
theorem isB_int_tuple : isB "int" "tuple" = false := by decide +kernel
theorem isB_int_int : isB "int" "int" = true := by decide +kernel
theorem isB_int_bool : isB "int" "bool" = false := by decide +kernel
theorem isB_int_str : isB "int" "str" = false := by decide +kernel
theorem isB_int_list : isB "int" "list" = false := by decide +kernel
theorem isB_str_tuple : isB "str" "tuple" = false := by decide +kernel
theorem isB_str_int : isB "str" "int" = false := by decide +kernel
theorem isB_str_bool : isB "str" "bool" = false := by decide +kernel
theorem isB_str_str : isB "str" "str" = true := by decide +kernel
theorem isB_str_list : isB "str" "list" = false := by decide +kernel
theorem isB_tuple_tuple : isB "tuple" "tuple" = true := by decide +kernel
theorem isB_tuple_int : isB "tuple" "int" = false := by decide +kernel
theorem isB_tuple_bool : isB "tuple" "bool" = false := by decide +kernel
theorem isB_tuple_str : isB "tuple" "str" = false := by decide +kernel
theorem isB_tuple_list : isB "tuple" "list" = false := by decide +kernel
theorem isB_list_tuple : isB "list" "tuple" = false := by decide +kernel
theorem isB_list_int : isB "list" "int" = false := by decide +kernel
theorem isB_list_bool : isB "list" "bool" = false := by decide +kernel
theorem isB_list_str : isB "list" "str" = false := by decide +kernel
theorem isB_list_list : isB "list" "list" = true := by decide +kernel
theorem gSl_lst (lo hi : Option Int) : gSl ih (.lst xs) lo hi = some (.lst (cutP xs lo hi)) := rfl
theorem gSl_tup (lo hi : Option Int) : gSl ih (.tup xs) lo hi = some (.tup (cutP xs lo hi)) := rfl
theorem gSl_scr (lo hi : Option Int) : gSl ih (.scr xs) lo hi = some (.lst (cutP xs lo hi)) := rfl
theorem cutP_tail {α : Type} (x : α) (l : List α) : cutP (x :: l) (some 1) none = l := by
  unfold cutP HT.sIx
  simp
theorem gStrA_intK {i : Int} (h : -1000000000000 < i ∧ i < 1000000000000) : gStrA ih [.int i] = some (.str (toString i)) := by
  rw [gStrA_int, if_pos]
  by_cases hz : i.natAbs = 0
  · rw [hz]; decide
  · exact (Nat.log2_lt hz).mpr (Nat.lt_of_lt_of_le (show i.natAbs < 2 ^ 40 by omega) (Nat.pow_le_pow_right (by omega) (by omega)))
theorem fin_false {v : PV} {h : IH} {Q : PV → IH → Prop} : (fin false ih v h).wp Q = Q v h := rfl
theorem permL_0 {α : Type} (p : α) : permL [0] [p] = [p] := rfl
theorem permL_01 {α : Type} (p q : α) : permL [0, 1] [p, q] = [p, q] := rfl
theorem permL_10 {α : Type} (p q : α) : permL [1, 0] [p, q] = [q, p] := rfl
theorem gIn_sign : gIn ih (.str ⟨#[c]⟩) (.str z) = some (decide (c ∈ z.cps.toList)) := rfl
theorem gNotIn_sign : gNotIn ih (.str ⟨#[c]⟩) (.str z) = some (!decide (c ∈ z.cps.toList)) := rfl
theorem gIn_str2 : gIn ih (.str x) (.tup [.str y, .str z]) = some (y == x || z == x) := by
  simp [gIn, gInS, gInD, dOf, dN, optAll, itemsD, PyData.eqv]
theorem gEq_nil : gEq ih (.lst []) (.lst []) = some true := by
  simp [gEq, dOf, dN, optAll, PyData.eqv, PyData.eqvAll]
theorem trP_A0 : trP (H ++ .lst xs :: g) (.ref H.length) = some (!xs.isEmpty) := by simp [trP, at_A0]
theorem trP_L0 (hr : r < H.length) : trP ((H ++ .lst xs :: g).set r cl) (.ref H.length) = some (!xs.isEmpty) := by unfold trP; simp only [at_loc0 hr]
theorem atI_last {α : Type} (l : List α) (h : l ≠ []) : atI l (-1) = l.getLast? := by
  have hl : 0 < l.length := List.length_pos_iff.mpr h
  rw [List.getLast?_eq_getElem?]
  unfold atI ixN
  rw [if_neg (by omega), if_pos (by omega)]
  simp only [Option.bind_some]
  congr 1
  omega
theorem sum_le (k : Nat) : ∀ l : List Str, (∀ w ∈ l, w.length ≤ k) → (l.map (·.length)).sum ≤ k * l.length
  | [], _ => by simp
  | x :: l, h => by
    have h1 := h x List.mem_cons_self
    have h2 := sum_le k l fun w hw => h w (List.mem_cons_of_mem _ hw)
    simp only [List.map_cons, List.sum_cons, List.length_cons, Nat.mul_succ]
    omega
theorem gJoin_q {p : PV} {l : List Str} (h : seqOf ih p = some (l.map .str)) (hs : (l.map (·.length)).sum + l.length * x.length ≤ 16777216) : gJoin ih (.str x) [p] = some (.str (Txt.join x l), ih) := by
  unfold gJoin
  simp only [h, strsOf_map, if_pos hs]
theorem gSplit_str (h : (y.length == 0) = false) (h2 : x.length + 2 ≤ 16777216) : gSplit ih (.str x) [.str y] = some (.lst ((Txt.split x y).map PV.str), ih) := by
  unfold gSplit
  simp only
  rw [if_pos ⟨h, by rw [sizeLine_eq]; exact h2⟩]
end
section
variable {Q : Bool → IH → Prop} {Q' : PV → IH → Prop} {env : EnvP} {h : IH} {tab : List (Str × Int)} {b : Bool} {F : EF}
theorem wp_tInTab : (tInTab tab b F env h).wp Q = ((F env h).bind fun p h => ofOpt (inTab tab b p) h).wp Q := rfl
theorem wp_eIxTab : (eIxTab tab F env h).wp Q' = ((F env h).bind fun p h => ofOpt (ixTab tab p) h).wp Q' := rfl
theorem ixTab_str {z : Str} : ixTab tab (.str z) = (tab.lookup z).map .int := rfl
theorem inTab_str {z : Str} : inTab tab b (.str z) = some (if b then !(tab.lookup z).isSome else (tab.lookup z).isSome) := by
  unfold inTab
  cases b <;> rfl
theorem lookup_c {α β : Type} [BEq α] (a k : α) (v : β) (l : List (α × β)) : List.lookup a ((k, v) :: l) = if a == k then some v else List.lookup a l := by
  rw [List.lookup_cons]
  cases a == k <;> rfl
theorem lookup_n {α β : Type} [BEq α] (a : α) : List.lookup a ([] : List (α × β)) = none := rfl
end
section
variable {ih g : IH} {v v' : PV} {Q : PV → IH → Prop}
theorem fin_frz (hf : frz ih.length (ih ++ g) 6 v = some v') (h : Q v' ih) : (fin true ih v (ih ++ g)).wp Q := by
  unfold fin
  rw [if_pos rfl, if_pos oldOk_same, hf]
  show Q v' ((ih ++ g).take ih.length)
  rw [List.take_left]
  exact h
theorem frz_ref {n m k : Nat} {h : IH} {xs ys : List PV} (hm : n ≤ m) (e : h[m]? = some (.lst xs)) (hx : optAll (frz n h k) xs = some ys) : frz n h (k + 1) (.ref m) = some (.lst ys) := by
  unfold frz
  rw [if_neg (by simp [clP]; omega)]
  simp only [e, hx, Option.map_some]
theorem optAll_map {α β γ : Type} {f : β → Option γ} {u : α → β} {w : α → γ} : ∀ l : List α, (∀ x ∈ l, f (u x) = some (w x)) → optAll f (l.map u) = some (l.map w)
  | [], _ => rfl
  | x :: l, h => by
    simp only [List.map_cons, optAll]
    rw [h x List.mem_cons_self, optAll_map l fun y hy => h y (List.mem_cons_of_mem _ hy)]
theorem optAll_get {β γ : Type} {f : β → Option γ} : ∀ (l : List β) (r : List γ), l.length = r.length → (∀ (j : Nat) (x : β) (y : γ), l[j]? = some x → r[j]? = some y → f x = some y) → optAll f l = some r
  | [], [], _, _ => rfl
  | [], _ :: _, h, _ => by simp at h
  | _ :: _, [], h, _ => by simp at h
  | x :: l, y :: r, h, hs => by
    simp only [optAll]
    rw [hs 0 x y rfl rfl, optAll_get l r (by simpa using h) fun j a b h1 h2 => hs (j + 1) a b (by simpa using h1) (by simpa using h2)]
theorem strs_cl (n : Nat) : ∀ l : List Str, clL n (l.map .str) = true
  | [] => rfl
  | x :: l => by simp [clL, clP, strs_cl n l]
end
theorem joinL_app (S : List Nat) : ∀ (p q : List (List Nat)), p ≠ [] → q ≠ [] → joinL S (p ++ q) = joinL S p ++ (S ++ joinL S q)
  | [], _, h, _ => absurd rfl h
  | [a], [], _, h => absurd rfl h
  | [a], b :: q, _, _ => rfl
  | a :: b :: p, q, _, h => by
    show a ++ (S ++ joinL S ((b :: p) ++ q)) = a ++ (S ++ joinL S (b :: p)) ++ (S ++ joinL S q)
    rw [joinL_app S (b :: p) q (by simp) h]
    simp
theorem joinL_flat (S : List Nat) : ∀ ls : List (List (List Nat)), (∀ l ∈ ls, l ≠ []) → joinL S (ls.map (joinL S)) = joinL S ls.flatten
  | [], _ => rfl
  | [l], _ => by simp [joinL]
  | l :: m :: ls, h => by
    have ih := joinL_flat S (m :: ls) fun x hx => h x (List.mem_cons_of_mem _ hx)
    show joinL S l ++ (S ++ joinL S ((m :: ls).map (joinL S))) = joinL S (l ++ (m :: ls).flatten)
    rw [ih, joinL_app S l _ (h l List.mem_cons_self)]
    have := h m (by simp)
    simp [this]
theorem join_flat (x : Str) {α : Type} (f : α → List Str) (l : List α) (h : ∀ a ∈ l, f a ≠ []) : Txt.join x (l.map fun a => Txt.join x (f a)) = Txt.join x (l.flatMap f) := by
  apply ext_tl
  rw [join_eq, join_eq, tl_join, tl_join, List.map_map]
  have e : l.map (tl ∘ fun a => Txt.join x (f a)) = (l.map fun a => (f a).map tl).map (joinL (tl x)) := by
    rw [List.map_map]
    refine List.map_congr_left fun a _ => ?_
    show tl (Txt.join x (f a)) = joinL (tl x) ((f a).map tl)
    rw [join_eq, tl_join]
  rw [e, joinL_flat _ _ (by simp; intro a ha; exact h a ha)]
  congr 1
  rw [List.flatMap_def, List.map_flatten, List.map_map]
  rfl
end PF

set_option Elab.async false
set_option linter.all false
set_option maxRecDepth 100000
set_option maxHeartbeats 4000000
namespace L71
open PySem PySem.Spec PyProof.Rows L2 PF
/-! ### the text -/
def topS (i : Nat) : Stmt := PySem.Challenge.pw_enoughaloft_k71_forecasts_written.main.body.getD i (.Pass ⟨0, 0, 0, 0⟩)
abbrev s_number_in : Stmt := topS 4
abbrev N_number_in : List Str := ["word", "sign"]
theorem sc_number_in : FnScope N_number_in ["word"] (defScope s_number_in) := ⟨rfl, rfl, rfl, by decide +kernel, rfl, by decide +kernel, by decide +kernel⟩
abbrev s_forecast_pieces : Stmt := topS 8
abbrev N_forecast_pieces : List Str := ["text", "lots", "piece"]
theorem sc_forecast_pieces : FnScope N_forecast_pieces ["text"] (defScope s_forecast_pieces) := ⟨rfl, rfl, rfl, by decide +kernel, rfl, by decide +kernel, by decide +kernel⟩
abbrev s_forecast_group : Stmt := topS 9
abbrev N_forecast_group : List Str := ["pieces", "word", "numbers", "piece"]
theorem sc_forecast_group : FnScope N_forecast_group ["pieces"] (defScope s_forecast_group) := ⟨rfl, rfl, rfl, by decide +kernel, rfl, by decide +kernel, by decide +kernel⟩
abbrev s_least_beginning : Stmt := topS 10
abbrev N_least_beginning : List Str := ["group", "least"]
theorem sc_least_beginning : FnScope N_least_beginning ["group", "least"] (defScope s_least_beginning) := ⟨rfl, rfl, rfl, by decide +kernel, rfl, by decide +kernel, by decide +kernel⟩
abbrev s_read_forecast : Stmt := topS 11
abbrev N_read_forecast : List Str := ["text", "groups", "least", "at", "pieces", "group"]
theorem sc_read_forecast : FnScope N_read_forecast ["text"] (defScope s_read_forecast) := ⟨rfl, rfl, rfl, by decide +kernel, rfl, by decide +kernel, by decide +kernel⟩
abbrev s_written_forecast : Stmt := topS 12
abbrev N_written_forecast : List Str := ["groups", "pieces", "group", "number"]
theorem sc_written_forecast : FnScope N_written_forecast ["groups"] (defScope s_written_forecast) := ⟨rfl, rfl, rfl, by decide +kernel, rfl, by decide +kernel, by decide +kernel⟩
abbrev s_law_pool : Stmt := topS 14
abbrev N_law_pool : List Str := ["script"]
theorem sc_law_pool : FnScope N_law_pool ["script"] (defScope s_law_pool) := ⟨rfl, rfl, rfl, by decide +kernel, rfl, by decide +kernel, by decide +kernel⟩
abbrev s_law_draw : Stmt := topS 15
abbrev N_law_draw : List Str := ["pool", "many", "cell", "digit", "mixed"]
theorem sc_law_draw : FnScope N_law_draw ["pool", "many"] (defScope s_law_draw) := ⟨rfl, rfl, rfl, by decide +kernel, rfl, by decide +kernel, by decide +kernel⟩
abbrev s_law_pick : Stmt := topS 16
abbrev N_law_pick : List Str := ["pool", "things"]
theorem sc_law_pick : FnScope N_law_pick ["pool", "things"] (defScope s_law_pick) := ⟨rfl, rfl, rfl, by decide +kernel, rfl, by decide +kernel, by decide +kernel⟩
abbrev s_law_same : Stmt := topS 17
abbrev N_law_same : List Str := ["told", "due", "k"]
theorem sc_law_same : FnScope N_law_same ["told", "due"] (defScope s_law_same) := ⟨rfl, rfl, rfl, by decide +kernel, rfl, by decide +kernel, by decide +kernel⟩
abbrev s_law_weather : Stmt := topS 18
abbrev N_law_weather : List Str := ["pool"]
theorem sc_law_weather : FnScope N_law_weather ["pool"] (defScope s_law_weather) := ⟨rfl, rfl, rfl, by decide +kernel, rfl, by decide +kernel, by decide +kernel⟩
abbrev s_law_groups : Stmt := topS 19
abbrev N_law_groups : List Str := ["pool", "many", "last", "groups", "begun", "end", "k", "word", "start", "later"]
theorem sc_law_groups : FnScope N_law_groups ["pool", "many", "last"] (defScope s_law_groups) := ⟨rfl, rfl, rfl, by decide +kernel, rfl, by decide +kernel, by decide +kernel⟩
abbrev s_law_text : Stmt := topS 20
abbrev N_law_text : List Str := ["groups", "rows", "group", "part"]
theorem sc_law_text : FnScope N_law_text ["groups"] (defScope s_law_text) := ⟨rfl, rfl, rfl, by decide +kernel, rfl, by decide +kernel, by decide +kernel⟩
abbrev s_law : Stmt := topS 21
abbrev N_law : List Str := ["script", "pool", "turn", "groups", "due", "words", "word", "told"]
theorem sc_law : FnScope N_law ["script"] (defScope s_law) := ⟨rfl, rfl, rfl, by decide +kernel, rfl, by decide +kernel, by decide +kernel⟩
def tab_GROUP_SIZES : List (Str × Int) := [("BASE", 2), ("FROM", 3), ("SLOWLY", 4), ("AT", 4), ("MAY", 4)]
/-! ### what the top leaves -/
structure T (K : PySem.W.Frag) (mg : Str → Option Value) (w : World) where
  a_number_in : Addr
  d_number_in : FuncData
  F_number_in : L2.Fun K "number_in" "number_in" s_number_in a_number_in d_number_in
  g_number_in : mg "number_in" = some (.ref a_number_in)
  b_number_in : L2.Binds K d_number_in ["word"] []
  a_forecast_pieces : Addr
  d_forecast_pieces : FuncData
  F_forecast_pieces : L2.Fun K "forecast_pieces" "forecast_pieces" s_forecast_pieces a_forecast_pieces d_forecast_pieces
  g_forecast_pieces : mg "forecast_pieces" = some (.ref a_forecast_pieces)
  b_forecast_pieces : L2.Binds K d_forecast_pieces ["text"] []
  a_forecast_group : Addr
  d_forecast_group : FuncData
  F_forecast_group : L2.Fun K "forecast_group" "forecast_group" s_forecast_group a_forecast_group d_forecast_group
  g_forecast_group : mg "forecast_group" = some (.ref a_forecast_group)
  b_forecast_group : L2.Binds K d_forecast_group ["pieces"] []
  a_least_beginning : Addr
  d_least_beginning : FuncData
  F_least_beginning : L2.Fun K "least_beginning" "least_beginning" s_least_beginning a_least_beginning d_least_beginning
  g_least_beginning : mg "least_beginning" = some (.ref a_least_beginning)
  b_least_beginning : L2.Binds K d_least_beginning ["group", "least"] []
  a_read_forecast : Addr
  d_read_forecast : FuncData
  F_read_forecast : L2.Fun K "read_forecast" "read_forecast" s_read_forecast a_read_forecast d_read_forecast
  g_read_forecast : mg "read_forecast" = some (.ref a_read_forecast)
  b_read_forecast : L2.Binds K d_read_forecast ["text"] []
  a_written_forecast : Addr
  d_written_forecast : FuncData
  F_written_forecast : L2.Fun K "written_forecast" "written_forecast" s_written_forecast a_written_forecast d_written_forecast
  g_written_forecast : mg "written_forecast" = some (.ref a_written_forecast)
  b_written_forecast : L2.Binds K d_written_forecast ["groups"] []
  a_law_pool : Addr
  d_law_pool : FuncData
  F_law_pool : L2.Fun K "_law_pool" "_law_pool" s_law_pool a_law_pool d_law_pool
  g_law_pool : mg "_law_pool" = some (.ref a_law_pool)
  b_law_pool : L2.Binds K d_law_pool ["script"] []
  a_law_draw : Addr
  d_law_draw : FuncData
  F_law_draw : L2.Fun K "_law_draw" "_law_draw" s_law_draw a_law_draw d_law_draw
  g_law_draw : mg "_law_draw" = some (.ref a_law_draw)
  b_law_draw : L2.Binds K d_law_draw ["pool", "many"] []
  a_law_pick : Addr
  d_law_pick : FuncData
  F_law_pick : L2.Fun K "_law_pick" "_law_pick" s_law_pick a_law_pick d_law_pick
  g_law_pick : mg "_law_pick" = some (.ref a_law_pick)
  b_law_pick : L2.Binds K d_law_pick ["pool", "things"] []
  a_law_same : Addr
  d_law_same : FuncData
  F_law_same : L2.Fun K "_law_same" "_law_same" s_law_same a_law_same d_law_same
  g_law_same : mg "_law_same" = some (.ref a_law_same)
  b_law_same : L2.Binds K d_law_same ["told", "due"] []
  a_law_weather : Addr
  d_law_weather : FuncData
  F_law_weather : L2.Fun K "_law_weather" "_law_weather" s_law_weather a_law_weather d_law_weather
  g_law_weather : mg "_law_weather" = some (.ref a_law_weather)
  b_law_weather : L2.Binds K d_law_weather ["pool"] []
  a_law_groups : Addr
  d_law_groups : FuncData
  F_law_groups : L2.Fun K "_law_groups" "_law_groups" s_law_groups a_law_groups d_law_groups
  g_law_groups : mg "_law_groups" = some (.ref a_law_groups)
  b_law_groups : L2.Binds K d_law_groups ["pool", "many", "last"] []
  a_law_text : Addr
  d_law_text : FuncData
  F_law_text : L2.Fun K "_law_text" "_law_text" s_law_text a_law_text d_law_text
  g_law_text : mg "_law_text" = some (.ref a_law_text)
  b_law_text : L2.Binds K d_law_text ["groups"] []
  a_law : Addr
  d_law : FuncData
  F_law : L2.Fun K "law" "law" s_law a_law d_law
  g_law : mg "law" = some (.ref a_law)
  b_law : L2.Binds K d_law ["script"] []
  k_written_forecast : ∀ (s : Shared) (ws : List Value), ws.length = (["groups"] : List Str).length → BindsTo s d_written_forecast ⟨[], (["groups"] : List Str).zip ws⟩ ((["groups"] : List Str).zip (permL [0] ws))
  z_abs : mg "abs" = none
  z_bool : mg "bool" = none
  z_enumerate : mg "enumerate" = none
  z_int : mg "int" = none
  z_isinstance : mg "isinstance" = none
  z_len : mg "len" = none
  z_list : mg "list" = none
  z_max : mg "max" = none
  z_range : mg "range" = none
  z_str : mg "str" = none
  z_tuple : mg "tuple" = none
  m_GROUP_SIZES : KTab K mg w "GROUP_SIZES" tab_GROUP_SIZES
  m_MOST_GROUPS : ∃ t, mg "MOST_GROUPS" = some (.int 12 t)
/-! ### each def -/
section
variable {P : Program} {w : World} {K : PySem.W.Frag} {mg : Str → Option Value} {base : Heap}
noncomputable def f_number_in : FnF := mkFn0 true 2
  (sSeq (sIf (tOrF (tCmp gLt (eCall gLen (aCons (eVar 0) aNil)) (eC (.int 1))) (tCmp gGt (eCall gLen (aCons (eVar 0) aNil)) (eC (.int 4))))
  (sRet (eC .non))
  sNext)
  (sSeq (sFor (iSeq (eVar 0)) (gtName 1)
  (sIf (tCmp gNotIn (eVar 1) (eC (.str "0123456789")))
  (sRet (eC .non))
  sNext))
  (sRet (eCall gIntA (aCons (eVar 0) aNil)))))
theorem ok_number_in (t : T K mg w) : FnOk P w K mg base CX0 1 t.a_number_in t.d_number_in ["word"] (spF K mg 1 f_number_in) := fn_ok t.F_number_in sc_number_in fun cdv A outer s H E hr =>
  (scons (fifs (fw (fwor (ftcmp o_lt (fcallB c_len (by rfl) t.z_len PySem.boot_len (acons (fv 0) anil)) fint (nomark _)) (fwor1 (ftcmp o_gt (fcallB c_len (by rfl) t.z_len PySem.boot_len (acons (fv 0) anil)) fint (nomark _)))))
  (sone (fret fnon))
  snil)
  (scons (ffor PassesOwn.never rfl (jseq (fv 0)) (gname sc_number_in.nd)
  (sone (fifs (ftcmp (o_notIn hr) (fv 1) fstr (by rfl))
  (sone (fret fnon))
  snil)))
  (sone (fret (fcallTy c_intA (by rfl) t.z_int PyProof.Rows.boot_int (acons (fv 0) anil))))))
noncomputable def f_forecast_pieces : FnF := mkFn0 true 3
  (sSeq (sSet 1 (eNew aNil))
  (sSeq (sFor (iSeq (eMe "str" gSplit (eVar 0) (aCons (eC (.str " ")) aNil))) (gtName 2)
  (sIf (tOrF (tNotF (tTru (eVar 1))) (tCmp gIs (eFn0 1 f_number_in (aCons (eVar 2) aNil)) (eC .non)))
  (sExpr (eMe "list" gAppend (eVar 1) (aCons (eNew (aCons (eVar 2) aNil)) aNil)))
  (sExpr (eMe "list" gAppend (eBin gIx (eVar 1) (eNeg (eC (.int 1)))) (aCons (eVar 2) aNil)))))
  (sRet (eVar 1))))
theorem ok_forecast_pieces (t : T K mg w) : FnOk P w K mg base CX0 2 t.a_forecast_pieces t.d_forecast_pieces ["text"] (spF K mg 1 f_forecast_pieces) := fn_ok t.F_forecast_pieces sc_forecast_pieces fun cdv A outer s H E hr =>
  (scons (fset (i := 1) sc_forecast_pieces.nd (fnew anil))
  (scons (ffor PassesOwn.never rfl (jseq (fme PySem.F.plainAttrs_str PySem.F.slot_str_split PySem.F.type_str_split m_split (fv 0) (acons fstr anil))) (gname sc_forecast_pieces.nd)
  (sone (fifs (fw (fwor (fnotT (ftru (fv 1))) (fwor1 (ftcmp o_is (fcall (ok_number_in t) (hr.mono (by decide)) (by rfl) t.g_number_in t.F_number_in.kp t.b_number_in (acons (fv 2) anil)) fnon (nomark _)))))
  (sone (fexpr (fme PySem.F.plainAttrs_list PySem.F.slot_list_append PySem.F.type_list_append m_append (fv 1) (acons (fnew (acons (fv 2) anil)) anil))))
  (sone (fexpr (fme PySem.F.plainAttrs_list PySem.F.slot_list_append PySem.F.type_list_append m_append (fix x_ix (fv 1) (fneg fint)) (acons (fv 2) anil)))))))
  (sone (fret (fv 1)))))
noncomputable def f_forecast_group : FnF := mkFn0 true 4
  (sSeq (sSet 1 (eBin gIx (eVar 0) (eC (.int 0))))
  (sSeq (sIf (tOrF (tInTab tab_GROUP_SIZES true (eVar 1)) (tCmp gNe (eBin gSub (eCall gLen (aCons (eVar 0) aNil)) (eC (.int 1))) (eIxTab tab_GROUP_SIZES (eVar 1))))
  (sRet (eC .non))
  sNext)
  (sSeq (sSet 2 (eCall gTuple (aCons (eLc (iSeq (eSl gSl (eVar 0) (oSome (eC (.int 1))) oNone)) (gtName 3) tYesF (eFn0 1 f_number_in (aCons (eVar 3) aNil)) [3]) aNil)))
  (sSeq (sIf (tAndF (tCmp gEq (eCall gLen (aCons (eVar 2) aNil)) (eC (.int 4))) (tCmp gGe (eBin gIx (eVar 2) (eC (.int 0))) (eBin gIx (eVar 2) (eC (.int 1)))))
  (sRet (eC .non))
  sNext)
  (sRet (eBin gAdd (eTup (aCons (eVar 1) aNil)) (eVar 2)))))))
theorem ok_forecast_group (t : T K mg w) : FnOk P w K mg base CX0 2 t.a_forecast_group t.d_forecast_group ["pieces"] (spF K mg 1 f_forecast_group) := fn_ok t.F_forecast_group sc_forecast_group fun cdv A outer s H E hr =>
  (scons (fset (i := 1) sc_forecast_group.nd (fix x_ix (fv 0) fint))
  (scons (fifs (fw (fwor (ftNotInTab t.m_GROUP_SIZES (by rfl) (fv 1)) (fwor1 (ftcmp (o_ne hr) (fbin o_sub (fcallB c_len (by rfl) t.z_len PySem.boot_len (acons (fv 0) anil)) fint) (fixTab t.m_GROUP_SIZES (by rfl) (fv 1)) (nomark _)))))
  (sone (fret fnon))
  snil)
  (scons (fset (i := 2) sc_forecast_group.nd (fcallTy c_tuple (by rfl) t.z_tuple PyProof.Rows.boot_tuple (acons (flc rfl sc_forecast_group.nd (jseq (fsl (fv 0) (fosome fint) fonone)) (blkOk_by (own := [("piece", 3)]) (N := N_forecast_group) (sc := defScope s_forecast_group) (by decide +kernel)) (fun _ _ _ _ _ => (gname sc_forecast_group.nd)) (fun _ _ _ _ _ => lnil) (fun _ _ _ _ _ => (fcall (ok_number_in t) (hr.mono (by decide)) (by rfl) t.g_number_in t.F_number_in.kp t.b_number_in (acons (fv 3) anil)))) anil)))
  (scons (fifs (fw (fwand (ftcmp (o_eq hr) (fcallB c_len (by rfl) t.z_len PySem.boot_len (acons (fv 2) anil)) fint (nomark _)) (fwand1 (ftcmp o_ge (fix x_ix (fv 2) fint) (fix x_ix (fv 2) fint) (nomark _)))))
  (sone (fret fnon))
  snil)
  (sone (fret (fbin o_add (ftup (acons (fv 1) anil)) (fv 2))))))))
noncomputable def f_least_beginning : FnF := mkFn0 true 2
  (sSeq (sIf (tCmp gEq (eBin gIx (eVar 0) (eC (.int 0))) (eC (.str "FROM")))
  (sRet (eBin gAdd (eBin gIx (eVar 0) (eC (.int 1))) (eC (.int 1))))
  sNext)
  (sSeq (sIf (tCmp gEq (eBin gIx (eVar 0) (eC (.int 0))) (eC (.str "SLOWLY")))
  (sRet (eBin gIx (eVar 0) (eC (.int 2))))
  sNext)
  (sRet (eVar 1))))
theorem ok_least_beginning (t : T K mg w) : FnOk P w K mg base CX0 1 t.a_least_beginning t.d_least_beginning ["group", "least"] (spF K mg 2 f_least_beginning) := fn_ok t.F_least_beginning sc_least_beginning fun cdv A outer s H E hr =>
  (scons (fifs (ftcmp (o_eq hr) (fix x_ix (fv 0) fint) fstr (nomark _))
  (sone (fret (fbin o_add (fix x_ix (fv 0) fint) fint)))
  snil)
  (scons (fifs (ftcmp (o_eq hr) (fix x_ix (fv 0) fint) fstr (nomark _))
  (sone (fret (fix x_ix (fv 0) fint)))
  snil)
  (sone (fret (fv 1)))))
noncomputable def f_read_forecast : FnF := mkFn0 true 6
  (sSeq (sSet 1 (eNew aNil))
  (sSeq (sSet 2 (eC (.int 0)))
  (sSeq (sFor (iEnumF (aCons (eFn0 1 f_forecast_pieces (aCons (eVar 0) aNil)) aNil)) (gtTup 2 (gtCons (gtName 3) (gtCons (gtName 4) gtNil)))
  (sSeq (sSet 5 (eFn0 1 f_forecast_group (aCons (eVar 4) aNil)))
  (sSeq (sIf (tOrF (tCmp gIs (eVar 5) (eC .non)) (tOrF (tCmp gGe (eVar 3) (eC (.int 12))) (tCmp gNe (eCmp gEq (eBin gIx (eVar 5) (eC (.int 0))) (eC (.str "BASE"))) (eCmp gEq (eVar 3) (eC (.int 0))))))
  sBad
  sNext)
  (sSeq (sIf (tAndF (tCmp gIn (eBin gIx (eVar 5) (eC (.int 0))) (eTup (aCons (eC (.str "FROM")) (aCons (eC (.str "SLOWLY")) aNil)))) (tCmp gLt (eBin gIx (eVar 5) (eC (.int 1))) (eVar 2)))
  sBad
  sNext)
  (sSeq (sSet 2 (eFn0 2 f_least_beginning (aCons (eVar 5) (aCons (eVar 2) aNil))))
  (sExpr (eMe "list" gAppend (eVar 1) (aCons (eVar 5) aNil))))))))
  (sRet (eCall gTuple (aCons (eVar 1) aNil))))))
theorem ok_read_forecast (t : T K mg w) : FnOk P w K mg base CX0 3 t.a_read_forecast t.d_read_forecast ["text"] (spF K mg 1 f_read_forecast) := fn_ok t.F_read_forecast sc_read_forecast fun cdv A outer s H E hr =>
  (scons (fset (i := 1) sc_read_forecast.nd (fnew anil))
  (scons (fset (i := 2) sc_read_forecast.nd fint)
  (scons (ffor PassesOwn.never rfl (jenum (by rfl) t.z_enumerate (acons (fcall (ok_forecast_pieces t) (hr.mono (by decide)) (by rfl) t.g_forecast_pieces t.F_forecast_pieces.kp t.b_forecast_pieces (acons (fv 0) anil)) anil)) (gtup rfl (gcons (gname sc_read_forecast.nd) (gcons (gname sc_read_forecast.nd) gnil)))
  (scons (fset (i := 5) sc_read_forecast.nd (fcall (ok_forecast_group t) (hr.mono (by decide)) (by rfl) t.g_forecast_group t.F_forecast_group.kp t.b_forecast_group (acons (fv 4) anil)))
  (scons (fifs (fw (fwor (ftcmp o_is (fv 5) fnon (nomark _)) (fwor (ftcmp o_ge (fv 3) (fglobI (by rfl) t.m_MOST_GROUPS) (nomark _)) (fwor1 (ftcmp (o_ne hr) (fcmp (o_eq hr) (fix x_ix (fv 5) fint) fstr (nomark _)) (fcmp (o_eq hr) (fv 3) fint (nomark _)) (nomark _))))))
  (sone fnever)
  snil)
  (scons (fifs (fw (fwand (ftcmp (o_in hr) (fix x_ix (fv 5) fint) (ftup (acons fstr (acons fstr anil))) (by rfl)) (fwand1 (ftcmp o_lt (fix x_ix (fv 5) fint) (fv 2) (nomark _)))))
  (sone fnever)
  snil)
  (scons (fset (i := 2) sc_read_forecast.nd (fcall (ok_least_beginning t) (hr.mono (by decide)) (by rfl) t.g_least_beginning t.F_least_beginning.kp t.b_least_beginning (acons (fv 5) (acons (fv 2) anil))))
  (sone (fexpr (fme PySem.F.plainAttrs_list PySem.F.slot_list_append PySem.F.type_list_append m_append (fv 1) (acons (fv 5) anil)))))))))
  (sone (fret (fcallTy c_tuple (by rfl) t.z_tuple PyProof.Rows.boot_tuple (acons (fv 1) anil)))))))
noncomputable def f_written_forecast : FnF := mkFn0 true 4
  (sSeq (sSet 1 (eNew aNil))
  (sSeq (sFor (iSeq (eVar 0)) (gtName 2)
  (sSeq (sExpr (eMe "list" gAppend (eVar 1) (aCons (eBin gIx (eVar 2) (eC (.int 0))) aNil)))
  (sFor (iSeq (eSl gSl (eVar 2) (oSome (eC (.int 1))) oNone)) (gtName 3)
  (sExpr (eMe "list" gAppend (eVar 1) (aCons (eCall gStrA (aCons (eVar 3) aNil)) aNil))))))
  (sRet (eMe "str" gJoin (eC (.str " ")) (aCons (eVar 1) aNil)))))
theorem ok_written_forecast (t : T K mg w) : FnOk P w K mg base CX0 1 t.a_written_forecast t.d_written_forecast ["groups"] (spF K mg 1 f_written_forecast) := fn_ok t.F_written_forecast sc_written_forecast fun cdv A outer s H E hr =>
  (scons (fset (i := 1) sc_written_forecast.nd (fnew anil))
  (scons (ffor PassesOwn.never rfl (jseq (fv 0)) (gname sc_written_forecast.nd)
  (scons (fexpr (fme PySem.F.plainAttrs_list PySem.F.slot_list_append PySem.F.type_list_append m_append (fv 1) (acons (fix x_ix (fv 2) fint) anil)))
  (sone (ffor PassesOwn.never rfl (jseq (fsl (fv 2) (fosome fint) fonone)) (gname sc_written_forecast.nd)
  (sone (fexpr (fme PySem.F.plainAttrs_list PySem.F.slot_list_append PySem.F.type_list_append m_append (fv 1) (acons (fcallTy c_strA (by rfl) t.z_str PyProof.Rows.boot_str (acons (fv 3) anil)) anil))))))))
  (sone (fret (fme PySem.F.plainAttrs_str PySem.F.slot_str_join PySem.F.type_str_join m_join fstr (acons (fv 1) anil))))))
noncomputable def f_law_pool : FnF := mkFn0 false 1
  (sRet (eCatNew (eLst (aCons (eC (.int 0)) (aCons (eC (.int 7)) (aCons (eC (.int 3)) aNil)))) (eCall gList (aCons (eVar 0) aNil))))
theorem ok_law_pool (t : T K mg w) : FnOk P w K mg base CX0 1 t.a_law_pool t.d_law_pool ["script"] (spF K mg 1 f_law_pool) := fn_ok t.F_law_pool sc_law_pool fun cdv A outer s H E hr =>
  (sone (fret (fcatNew (flst (acons fint (acons fint (acons fint anil)))) (fcallTy c_list (by rfl) t.z_list PyProof.Rows.boot_list (acons (fv 0) anil)))))
noncomputable def f_law_draw : FnF := mkFn0 true 5
  (sSeq (sIf (tAndF (tCmp gEq (eBin gIx (eVar 0) (eC (.int 0))) (eC (.int 0))) (tCmp gLt (eBin gIx (eVar 0) (eC (.int 2))) (eCall gLen (aCons (eVar 0) aNil))))
  (sSeq (sSet 2 (eBin gIx (eVar 0) (eBin gIx (eVar 0) (eC (.int 2)))))
  (sSeq (sSub (eVar 0) (eC (.int 2)) (eBin gAdd (eBin gIx (eVar 0) (eC (.int 2))) (eC (.int 1))))
  (sSeq (sSub (eVar 0) (eC (.int 1)) (eBin gMod (eCall gIntA (aCons (eBin gAdd (eBin gMul (eBin gIx (eVar 0) (eC (.int 1))) (eC (.int 31))) (eVar 2)) aNil)) (eC (.int 2147483647))))
  (sIf (tCmp gGe (eCall gAbs (aCons (eVar 2) aNil)) (eBin gPow (eC (.int 10)) (eC (.int 18))))
  (sSub (eVar 0) (eC (.int 0)) (eCall gAbs (aCons (eVar 2) aNil)))
  sNext))))
  sNext)
  (sSeq (sIf (tCmp gGt (eBin gIx (eVar 0) (eC (.int 0))) (eC (.int 0)))
  (sSeq (sSet 3 (eBin gMod (eCall gIntA (aCons (eBin gIx (eVar 0) (eC (.int 0))) aNil)) (eVar 1)))
  (sSeq (sSub (eVar 0) (eC (.int 0)) (eBin gDiv (eBin gIx (eVar 0) (eC (.int 0))) (eVar 1)))
  (sRet (eVar 3))))
  sNext)
  (sSeq (sSub (eVar 0) (eC (.int 1)) (eBin gMod (eCall gIntA (aCons (eBin gAdd (eBin gMul (eBin gIx (eVar 0) (eC (.int 1))) (eC (.int 48271))) (eC (.int 12345))) aNil)) (eC (.int 2147483647))))
  (sSeq (sSet 4 (eBin gMod (eCall gIntA (aCons (eBin gAdd (eBin gAdd (eBin gMul (eBin gIx (eVar 0) (eC (.int 1))) (eC (.int 69621))) (eBin gDiv (eBin gIx (eVar 0) (eC (.int 1))) (eC (.int 65536)))) (eC (.int 17))) aNil)) (eC (.int 2147483629))))
  (sRet (eBin gMod (eCall gIntA (aCons (eBin gDiv (eVar 4) (eC (.int 16))) aNil)) (eVar 1)))))))
theorem ok_law_draw (t : T K mg w) : FnOk P w K mg base CX0 1 t.a_law_draw t.d_law_draw ["pool", "many"] (spF K mg 2 f_law_draw) := fn_ok t.F_law_draw sc_law_draw fun cdv A outer s H E hr =>
  (scons (fifs (fw (fwand (ftcmp (o_eq hr) (fix x_ix (fv 0) fint) fint (nomark _)) (fwand1 (ftcmp o_lt (fix x_ix (fv 0) fint) (fcallB c_len (by rfl) t.z_len PySem.boot_len (acons (fv 0) anil)) (nomark _)))))
  (scons (fset (i := 2) sc_law_draw.nd (fix x_ix (fv 0) (fix x_ix (fv 0) fint)))
  (scons (fsub (fbin o_add (fix x_ix (fv 0) fint) fint) (fv 0) fint)
  (scons (fsub (fbin o_mod (fcallTy c_intA (by rfl) t.z_int PyProof.Rows.boot_int (acons (fbin o_add (fbin o_mul (fix x_ix (fv 0) fint) fint) (fv 2)) anil)) fint) (fv 0) fint)
  (sone (fifs (ftcmp o_ge (fcallB c_abs (by rfl) t.z_abs (by decide +kernel) (acons (fv 2) anil)) (fbin o_pow fint fint) (nomark _))
  (sone (fsub (fcallB c_abs (by rfl) t.z_abs (by decide +kernel) (acons (fv 2) anil)) (fv 0) fint))
  snil)))))
  snil)
  (scons (fifs (ftcmp o_gt (fix x_ix (fv 0) fint) fint (nomark _))
  (scons (fset (i := 3) sc_law_draw.nd (fbin o_mod (fcallTy c_intA (by rfl) t.z_int PyProof.Rows.boot_int (acons (fix x_ix (fv 0) fint) anil)) (fv 1)))
  (scons (fsub (fbin o_div (fix x_ix (fv 0) fint) (fv 1)) (fv 0) fint)
  (sone (fret (fv 3)))))
  snil)
  (scons (fsub (fbin o_mod (fcallTy c_intA (by rfl) t.z_int PyProof.Rows.boot_int (acons (fbin o_add (fbin o_mul (fix x_ix (fv 0) fint) fint) fint) anil)) fint) (fv 0) fint)
  (scons (fset (i := 4) sc_law_draw.nd (fbin o_mod (fcallTy c_intA (by rfl) t.z_int PyProof.Rows.boot_int (acons (fbin o_add (fbin o_add (fbin o_mul (fix x_ix (fv 0) fint) fint) (fbin o_div (fix x_ix (fv 0) fint) fint)) fint) anil)) fint))
  (sone (fret (fbin o_mod (fcallTy c_intA (by rfl) t.z_int PyProof.Rows.boot_int (acons (fbin o_div (fv 4) fint) anil)) (fv 1))))))))
noncomputable def f_law_pick : FnF := mkFn0 true 2
  (sRet (eBin gIx (eVar 1) (eFn0 2 f_law_draw (aCons (eVar 0) (aCons (eCall gLen (aCons (eVar 1) aNil)) aNil)))))
theorem ok_law_pick (t : T K mg w) : FnOk P w K mg base CX0 2 t.a_law_pick t.d_law_pick ["pool", "things"] (spF K mg 2 f_law_pick) := fn_ok t.F_law_pick sc_law_pick fun cdv A outer s H E hr =>
  (sone (fret (fix x_ix (fv 1) (fcall (ok_law_draw t) (hr.mono (by decide)) (by rfl) t.g_law_draw t.F_law_draw.kp t.b_law_draw (acons (fv 0) (acons (fcallB c_len (by rfl) t.z_len PySem.boot_len (acons (fv 1) anil)) anil))))))
noncomputable def b_law_same (fr : FnF) : SF := (sSeq (sIf (tTru (eIsi "tuple" (eVar 1)))
  (sSeq (sIf (tOrF (tNotF (tTru (eIsi "tuple" (eVar 0)))) (tCmp gNe (eCall gLen (aCons (eVar 0) aNil)) (eCall gLen (aCons (eVar 1) aNil))))
  (sRet (eC (.bl false)))
  sNext)
  (sRet (eCmp gEq (eLc (iRng1F (aCons (eCall gLen (aCons (eVar 1) aNil)) aNil)) (gtName 2) (tNotF (tTru (eFn0 2 fr (aCons (eBin gIx (eVar 0) (eVar 2)) (aCons (eBin gIx (eVar 1) (eVar 2)) aNil))))) (eVar 2) [2]) (eLst aNil))))
  sNext)
  (sSeq (sIf (tTru (eIsi "str" (eVar 1)))
  (sRet (eAnd (eIsi "str" (eVar 0)) (eCmp gEq (eVar 0) (eVar 1))))
  sNext)
  (sSeq (sIf (tCmp gIs (eVar 1) (eC .non))
  (sRet (eCmp gIs (eVar 0) (eC .non)))
  sNext)
  (sRet (eAnd (eIsi "int" (eVar 0)) (eAnd (eCmp gEq (eIsi "bool" (eVar 0)) (eIsi "bool" (eVar 1))) (eCmp gEq (eVar 0) (eVar 1))))))))
noncomputable def f_law_same : Nat → FnF
  | 0 => fun _ _ => .bad
  | n + 1 => mkFn0 true 3 (b_law_same (f_law_same n))
theorem ok_law_same (t : T K mg w) : ∀ n : Nat, FnOk P w K mg base CX0 (n + 0) t.a_law_same t.d_law_same ["told", "due"] (spF K mg 2 (f_law_same n))
  | 0 => ⟨fun vs H Q E h => h.1, fun A outer s H args us vs Q E hr e0 hb r h => by obtain ⟨_, _, _, _, _, _, _, z⟩ := h; exact z.elim⟩
  | n + 1 => by
    have ih := ok_law_same t n
    rw [show n + 1 + 0 = (n + 0) + 1 by omega]
    exact fn_ok (fr := true) (B := b_law_same (f_law_same n)) t.F_law_same sc_law_same fun cdv A outer s H E hr =>
  (scons (fifs (ftru (fisi (t := "tuple") (by decide) (by rfl) t.z_isinstance (by rfl) t.z_tuple PyProof.Rows.boot_tuple (fv 1)))
  (scons (fifs (fw (fwor (fnotT (ftru (fisi (t := "tuple") (by decide) (by rfl) t.z_isinstance (by rfl) t.z_tuple PyProof.Rows.boot_tuple (fv 0)))) (fwor1 (ftcmp (o_ne hr) (fcallB c_len (by rfl) t.z_len PySem.boot_len (acons (fv 0) anil)) (fcallB c_len (by rfl) t.z_len PySem.boot_len (acons (fv 1) anil)) (nomark _)))))
  (sone (fret fbl))
  snil)
  (sone (fret (fcmp (o_eq hr) (flc rfl sc_law_same.nd (jrng1 (by rfl) t.z_range (acons (fcallB c_len (by rfl) t.z_len PySem.boot_len (acons (fv 1) anil)) anil)) (blkOk_by (own := [("k", 2)]) (N := N_law_same) (sc := defScope s_law_same) (by decide +kernel)) (fun _ _ _ _ _ => (gname sc_law_same.nd)) (fun _ _ _ _ _ => (lone (fnotT (ftru (fcall ih hr (by rfl) t.g_law_same t.F_law_same.kp t.b_law_same (acons (fix x_ix (fv 0) (fv 2)) (acons (fix x_ix (fv 1) (fv 2)) anil))))))) (fun _ _ _ _ _ => (fv 2))) (flst anil) (nomark _)))))
  snil)
  (scons (fifs (ftru (fisi (t := "str") (by decide) (by rfl) t.z_isinstance (by rfl) t.z_str PyProof.Rows.boot_str (fv 1)))
  (sone (fret (fand (fisi (t := "str") (by decide) (by rfl) t.z_isinstance (by rfl) t.z_str PyProof.Rows.boot_str (fv 0)) (fone (fcmp (o_eq hr) (fv 0) (fv 1) (nomark _))))))
  snil)
  (scons (fifs (ftcmp o_is (fv 1) fnon (nomark _))
  (sone (fret (fcmp o_is (fv 0) fnon (nomark _))))
  snil)
  (sone (fret (fand (fisi (t := "int") (by decide) (by rfl) t.z_isinstance (by rfl) t.z_int PyProof.Rows.boot_int (fv 0)) (fand (fcmp (o_eq hr) (fisi (t := "bool") (by decide) (by rfl) t.z_isinstance (by rfl) t.z_bool PyProof.Rows.boot_bool (fv 0)) (fisi (t := "bool") (by decide) (by rfl) t.z_isinstance (by rfl) t.z_bool PyProof.Rows.boot_bool (fv 1)) (nomark _)) (fone (fcmp (o_eq hr) (fv 0) (fv 1) (nomark _))))))))))
noncomputable def f_law_weather : FnF := mkFn0 true 1
  (sRet (eTup (aCons (eFn0 2 f_law_pick (aCons (eVar 0) (aCons (eLst (aCons (eC (.int 0)) (aCons (eC (.int 3)) (aCons (eC (.int 3)) (aCons (eC (.int 5)) (aCons (eC (.int 8)) (aCons (eC (.int 8)) (aCons (eC (.int 9999)) (aCons (eFn0 2 f_law_draw (aCons (eVar 0) (aCons (eC (.int 10000)) aNil))) aNil))))))))) aNil))) (aCons (eFn0 2 f_law_pick (aCons (eVar 0) (aCons (eLst (aCons (eC (.int 0)) (aCons (eC (.int 2)) (aCons (eC (.int 2)) (aCons (eC (.int 6)) (aCons (eC (.int 7)) (aCons (eC (.int 7)) (aCons (eC (.int 9999)) (aCons (eFn0 2 f_law_draw (aCons (eVar 0) (aCons (eC (.int 10000)) aNil))) aNil))))))))) aNil))) aNil))))
theorem ok_law_weather (t : T K mg w) : FnOk P w K mg base CX0 3 t.a_law_weather t.d_law_weather ["pool"] (spF K mg 1 f_law_weather) := fn_ok t.F_law_weather sc_law_weather fun cdv A outer s H E hr =>
  (sone (fret (ftup (acons (fcall (ok_law_pick t) (hr.mono (by decide)) (by rfl) t.g_law_pick t.F_law_pick.kp t.b_law_pick (acons (fv 0) (acons (flst (acons fint (acons fint (acons fint (acons fint (acons fint (acons fint (acons fint (acons (fcall (ok_law_draw t) (hr.mono (by decide)) (by rfl) t.g_law_draw t.F_law_draw.kp t.b_law_draw (acons (fv 0) (acons fint anil))) anil))))))))) anil))) (acons (fcall (ok_law_pick t) (hr.mono (by decide)) (by rfl) t.g_law_pick t.F_law_pick.kp t.b_law_pick (acons (fv 0) (acons (flst (acons fint (acons fint (acons fint (acons fint (acons fint (acons fint (acons fint (acons (fcall (ok_law_draw t) (hr.mono (by decide)) (by rfl) t.g_law_draw t.F_law_draw.kp t.b_law_draw (acons (fv 0) (acons fint anil))) anil))))))))) anil))) anil)))))
noncomputable def f_law_groups : FnF := mkFn0 true 10
  (sSeq (sPar3 3 4 5 (aCons (eNew (aCons (eBin gAdd (eTup (aCons (eC (.str "BASE")) aNil)) (eFn0 1 f_law_weather (aCons (eVar 0) aNil))) aNil)) (aCons (eNeg (eC (.int 1))) (aCons (eC (.int 0)) aNil))))
  (sSeq (sFor (iRng1F (aCons (eFn0 2 f_law_draw (aCons (eVar 0) (aCons (eVar 1) aNil))) aNil)) (gtName 6)
  (sSeq (sSet 7 (eFn0 2 f_law_pick (aCons (eVar 0) (aCons (eLst (aCons (eC (.str "FROM")) (aCons (eC (.str "SLOWLY")) (aCons (eC (.str "AT")) (aCons (eC (.str "MAY")) aNil))))) aNil))))
  (sSeq (sSet 8 (eBin gAdd (eCall gMaxA (aCons (eBin gAdd (eVar 4) (eC (.int 1))) (aCons (eVar 5) aNil))) (eFn0 2 f_law_draw (aCons (eVar 0) (aCons (eC (.int 4)) aNil)))))
  (sSeq (sSet 9 (eBin gAdd (eBin gAdd (eVar 8) (eC (.int 1))) (eFn0 2 f_law_draw (aCons (eVar 0) (aCons (eC (.int 4)) aNil)))))
  (sIf (tCmp gEq (eVar 7) (eC (.str "FROM")))
  (sSeq (sExpr (eMe "list" gAppend (eVar 3) (aCons (eBin gAdd (eTup (aCons (eVar 7) (aCons (eVar 8) aNil))) (eFn0 1 f_law_weather (aCons (eVar 0) aNil))) aNil)))
  (sPar 4 5 (aCons (eVar 8) (aCons (eVar 8) aNil))))
  (sIf (tCmp gEq (eVar 7) (eC (.str "SLOWLY")))
  (sSeq (sExpr (eMe "list" gAppend (eVar 3) (aCons (eBin gAdd (eTup (aCons (eVar 7) (aCons (eVar 8) (aCons (eVar 9) aNil)))) (eFn0 1 f_law_weather (aCons (eVar 0) aNil))) aNil)))
  (sPar 4 5 (aCons (eVar 8) (aCons (eVar 9) aNil))))
  (sSeq (sSet 8 (eFn0 2 f_law_draw (aCons (eVar 0) (aCons (eBin gAdd (eVar 2) (eC (.int 1))) aNil))))
  (sExpr (eMe "list" gAppend (eVar 3) (aCons (eBin gAdd (eTup (aCons (eVar 7) (aCons (eVar 8) (aCons (eBin gAdd (eBin gAdd (eVar 8) (eC (.int 1))) (eFn0 2 f_law_draw (aCons (eVar 0) (aCons (eC (.int 5)) aNil)))) aNil)))) (eFn0 1 f_law_weather (aCons (eVar 0) aNil))) aNil))))))))))
  (sRet (eCall gTuple (aCons (eVar 3) aNil)))))
theorem ok_law_groups (t : T K mg w) : FnOk P w K mg base CX0 4 t.a_law_groups t.d_law_groups ["pool", "many", "last"] (spF K mg 3 f_law_groups) := fn_ok t.F_law_groups sc_law_groups fun cdv A outer s H E hr =>
  (scons (fpar3 (i := 3) (j := 4) (l := 5) rfl sc_law_groups.nd (acons (fnew (acons (fbin o_add (ftup (acons fstr anil)) (fcall (ok_law_weather t) (hr.mono (by decide)) (by rfl) t.g_law_weather t.F_law_weather.kp t.b_law_weather (acons (fv 0) anil))) anil)) (acons (fneg fint) (acons fint anil))))
  (scons (ffor PassesOwn.never rfl (jrng1 (by rfl) t.z_range (acons (fcall (ok_law_draw t) (hr.mono (by decide)) (by rfl) t.g_law_draw t.F_law_draw.kp t.b_law_draw (acons (fv 0) (acons (fv 1) anil))) anil)) (gname sc_law_groups.nd)
  (scons (fset (i := 7) sc_law_groups.nd (fcall (ok_law_pick t) (hr.mono (by decide)) (by rfl) t.g_law_pick t.F_law_pick.kp t.b_law_pick (acons (fv 0) (acons (flst (acons fstr (acons fstr (acons fstr (acons fstr anil))))) anil))))
  (scons (fset (i := 8) sc_law_groups.nd (fbin o_add (fcallB (c_max rfl) (by rfl) t.z_max (by decide +kernel) (acons (fbin o_add (fv 4) fint) (acons (fv 5) anil))) (fcall (ok_law_draw t) (hr.mono (by decide)) (by rfl) t.g_law_draw t.F_law_draw.kp t.b_law_draw (acons (fv 0) (acons fint anil)))))
  (scons (fset (i := 9) sc_law_groups.nd (fbin o_add (fbin o_add (fv 8) fint) (fcall (ok_law_draw t) (hr.mono (by decide)) (by rfl) t.g_law_draw t.F_law_draw.kp t.b_law_draw (acons (fv 0) (acons fint anil)))))
  (sone (fifs (ftcmp (o_eq hr) (fv 7) fstr (nomark _))
  (scons (fexpr (fme PySem.F.plainAttrs_list PySem.F.slot_list_append PySem.F.type_list_append m_append (fv 3) (acons (fbin o_add (ftup (acons (fv 7) (acons (fv 8) anil))) (fcall (ok_law_weather t) (hr.mono (by decide)) (by rfl) t.g_law_weather t.F_law_weather.kp t.b_law_weather (acons (fv 0) anil))) anil)))
  (sone (fpar (i := 4) (j := 5) rfl sc_law_groups.nd (acons (fv 8) (acons (fv 8) anil)))))
  (sone (fifs (ftcmp (o_eq hr) (fv 7) fstr (nomark _))
  (scons (fexpr (fme PySem.F.plainAttrs_list PySem.F.slot_list_append PySem.F.type_list_append m_append (fv 3) (acons (fbin o_add (ftup (acons (fv 7) (acons (fv 8) (acons (fv 9) anil)))) (fcall (ok_law_weather t) (hr.mono (by decide)) (by rfl) t.g_law_weather t.F_law_weather.kp t.b_law_weather (acons (fv 0) anil))) anil)))
  (sone (fpar (i := 4) (j := 5) rfl sc_law_groups.nd (acons (fv 8) (acons (fv 9) anil)))))
  (scons (fset (i := 8) sc_law_groups.nd (fcall (ok_law_draw t) (hr.mono (by decide)) (by rfl) t.g_law_draw t.F_law_draw.kp t.b_law_draw (acons (fv 0) (acons (fbin o_add (fv 2) fint) anil))))
  (sone (fexpr (fme PySem.F.plainAttrs_list PySem.F.slot_list_append PySem.F.type_list_append m_append (fv 3) (acons (fbin o_add (ftup (acons (fv 7) (acons (fv 8) (acons (fbin o_add (fbin o_add (fv 8) fint) (fcall (ok_law_draw t) (hr.mono (by decide)) (by rfl) t.g_law_draw t.F_law_draw.kp t.b_law_draw (acons (fv 0) (acons fint anil)))) anil)))) (fcall (ok_law_weather t) (hr.mono (by decide)) (by rfl) t.g_law_weather t.F_law_weather.kp t.b_law_weather (acons (fv 0) anil))) anil)))))))))))))
  (sone (fret (fcallTy c_tuple (by rfl) t.z_tuple PyProof.Rows.boot_tuple (acons (fv 3) anil))))))
noncomputable def f_law_text : FnF := mkFn0 true 4
  (sSeq (sSet 1 (eNew aNil))
  (sSeq (sFor (iSeq (eVar 0)) (gtName 2)
  (sExpr (eMe "list" gAppend (eVar 1) (aCons (eMe "str" gJoin (eC (.str " ")) (aCons (eLc (iSeq (eVar 2)) (gtName 3) tYesF (eCall gStrA (aCons (eVar 3) aNil)) [3]) aNil)) aNil))))
  (sRet (eMe "str" gJoin (eC (.str " ")) (aCons (eVar 1) aNil)))))
theorem ok_law_text (t : T K mg w) : FnOk P w K mg base CX0 1 t.a_law_text t.d_law_text ["groups"] (spF K mg 1 f_law_text) := fn_ok t.F_law_text sc_law_text fun cdv A outer s H E hr =>
  (scons (fset (i := 1) sc_law_text.nd (fnew anil))
  (scons (ffor PassesOwn.never rfl (jseq (fv 0)) (gname sc_law_text.nd)
  (sone (fexpr (fme PySem.F.plainAttrs_list PySem.F.slot_list_append PySem.F.type_list_append m_append (fv 1) (acons (fme PySem.F.plainAttrs_str PySem.F.slot_str_join PySem.F.type_str_join m_join fstr (acons (flc rfl sc_law_text.nd (jseq (fv 2)) (blkOk_by (own := [("part", 3)]) (N := N_law_text) (sc := defScope s_law_text) (by decide +kernel)) (fun _ _ _ _ _ => (gname sc_law_text.nd)) (fun _ _ _ _ _ => lnil) (fun _ _ _ _ _ => (fcallTy c_strA (by rfl) t.z_str PyProof.Rows.boot_str (acons (fv 3) anil)))) anil)) anil)))))
  (sone (fret (fme PySem.F.plainAttrs_str PySem.F.slot_str_join PySem.F.type_str_join m_join fstr (acons (fv 1) anil))))))
noncomputable def f_law : FnF := mkFn0 true 8
  (sSeq (sSet 1 (eFn0 1 f_law_pool (aCons (eVar 0) aNil)))
  (sSeq (sFor (iRng1F (aCons (eC (.int 20)) aNil)) (gtName 2)
  (sSeq (sSet 3 (eFn0 3 f_law_groups (aCons (eVar 1) (aCons (eC (.int 12)) (aCons (eFn0 2 f_law_pick (aCons (eVar 1) (aCons (eLst (aCons (eC (.int 5)) (aCons (eC (.int 30)) (aCons (eC (.int 9990)) aNil)))) aNil))) aNil)))))
  (sSeq (sSet 4 (eFn0 1 f_law_text (aCons (eVar 3) aNil)))
  (sSeq (sIf (tOrF (tNotF (tTru (eFn0 2 (f_law_same 4) (aCons (eFn0 1 f_written_forecast (aCons (eVar 3) aNil)) (aCons (eVar 4) aNil))))) (tNotF (tTru (eFn0 2 (f_law_same 4) (aCons (eFn0 1 f_read_forecast (aCons (eVar 4) aNil)) (aCons (eVar 3) aNil))))))
  (sRet (eC (.bl false)))
  sNext)
  (sSeq (sSet 5 (eNew aNil))
  (sSeq (sFor (iSeq (eMe "str" gSplit (eVar 4) (aCons (eC (.str " ")) aNil))) (gtName 6)
  (sExpr (eMe "list" gAppend (eVar 5) (aCons (eIf (tCmp gIn (eBin gIx (eVar 6) (eC (.int 0))) (eC (.str "0123456789"))) (eBin gAdd (eBin gMul (eC (.str "0")) (eFn0 2 f_law_draw (aCons (eVar 1) (aCons (eBin gSub (eC (.int 5)) (eCall gLen (aCons (eVar 6) aNil))) aNil)))) (eVar 6)) (eVar 6)) aNil))))
  (sSeq (sSet 7 (eFn0 1 f_read_forecast (aCons (eMe "str" gJoin (eC (.str " ")) (aCons (eVar 5) aNil)) aNil)))
  (sIf (tOrF (tNotF (tTru (eFn0 2 (f_law_same 4) (aCons (eVar 7) (aCons (eVar 3) aNil))))) (tOrF (tNotF (tTru (eFn0 2 (f_law_same 4) (aCons (eFn0 1 f_written_forecast (aCons (eVar 7) aNil)) (aCons (eVar 4) aNil))))) (tNotF (tTru (eFn0 2 (f_law_same 4) (aCons (eFnK0 1 [0] f_written_forecast (fun env ih => ((aCons (eVar 7) aNil) env ih).bind fun qs h => if qs.length = (["groups"] : List Str).length then .ok qs h else .bad)) (aCons (eVar 4) aNil)))))))
  (sRet (eC (.bl false)))
  sNext))))))))
  (sRet (eFn0 2 (f_law_same 4) (aCons (eFn0 1 f_written_forecast (aCons (eTup (aCons (eTup (aCons (eC (.str "BASE")) (aCons (eC (.int 0)) (aCons (eC (.int 9999)) aNil)))) aNil)) aNil)) (aCons (eC (.str "BASE 0 9999")) aNil))))))
theorem ok_law (t : T K mg w) : FnOk P w K mg base CX0 5 t.a_law t.d_law ["script"] (spF K mg 1 f_law) := fn_ok t.F_law sc_law fun cdv A outer s H E hr =>
  (scons (fset (i := 1) sc_law.nd (fcall (ok_law_pool t) (hr.mono (by decide)) (by rfl) t.g_law_pool t.F_law_pool.kp t.b_law_pool (acons (fv 0) anil)))
  (scons (ffor PassesOwn.never rfl (jrng1 (by rfl) t.z_range (acons fint anil)) (gname sc_law.nd)
  (scons (fset (i := 3) sc_law.nd (fcall (ok_law_groups t) (hr.mono (by decide)) (by rfl) t.g_law_groups t.F_law_groups.kp t.b_law_groups (acons (fv 1) (acons fint (acons (fcall (ok_law_pick t) (hr.mono (by decide)) (by rfl) t.g_law_pick t.F_law_pick.kp t.b_law_pick (acons (fv 1) (acons (flst (acons fint (acons fint (acons fint anil)))) anil))) anil)))))
  (scons (fset (i := 4) sc_law.nd (fcall (ok_law_text t) (hr.mono (by decide)) (by rfl) t.g_law_text t.F_law_text.kp t.b_law_text (acons (fv 3) anil)))
  (scons (fifs (fw (fwor (fnotT (ftru (fcall (ok_law_same t 4) (hr.mono (by decide)) (by rfl) t.g_law_same t.F_law_same.kp t.b_law_same (acons (fcall (ok_written_forecast t) (hr.mono (by decide)) (by rfl) t.g_written_forecast t.F_written_forecast.kp t.b_written_forecast (acons (fv 3) anil)) (acons (fv 4) anil))))) (fwor1 (fnotT (ftru (fcall (ok_law_same t 4) (hr.mono (by decide)) (by rfl) t.g_law_same t.F_law_same.kp t.b_law_same (acons (fcall (ok_read_forecast t) (hr.mono (by decide)) (by rfl) t.g_read_forecast t.F_read_forecast.kp t.b_read_forecast (acons (fv 4) anil)) (acons (fv 3) anil))))))))
  (sone (fret fbl))
  snil)
  (scons (fset (i := 5) sc_law.nd (fnew anil))
  (scons (ffor PassesOwn.never rfl (jseq (fme PySem.F.plainAttrs_str PySem.F.slot_str_split PySem.F.type_str_split m_split (fv 4) (acons fstr anil))) (gname sc_law.nd)
  (sone (fexpr (fme PySem.F.plainAttrs_list PySem.F.slot_list_append PySem.F.type_list_append m_append (fv 5) (acons (fif (ftcmp (o_in hr) (fix x_ix (fv 6) fint) fstr (by rfl)) (fbin o_add (fbin o_mul fstr (fcall (ok_law_draw t) (hr.mono (by decide)) (by rfl) t.g_law_draw t.F_law_draw.kp t.b_law_draw (acons (fv 1) (acons (fbin o_sub fint (fcallB c_len (by rfl) t.z_len PySem.boot_len (acons (fv 6) anil))) anil)))) (fv 6)) (fv 6)) anil)))))
  (scons (fset (i := 7) sc_law.nd (fcall (ok_read_forecast t) (hr.mono (by decide)) (by rfl) t.g_read_forecast t.F_read_forecast.kp t.b_read_forecast (acons (fme PySem.F.plainAttrs_str PySem.F.slot_str_join PySem.F.type_str_join m_join fstr (acons (fv 5) anil)) anil)))
  (sone (fifs (fw (fwor (fnotT (ftru (fcall (ok_law_same t 4) (hr.mono (by decide)) (by rfl) t.g_law_same t.F_law_same.kp t.b_law_same (acons (fv 7) (acons (fv 3) anil))))) (fwor (fnotT (ftru (fcall (ok_law_same t 4) (hr.mono (by decide)) (by rfl) t.g_law_same t.F_law_same.kp t.b_law_same (acons (fcall (ok_written_forecast t) (hr.mono (by decide)) (by rfl) t.g_written_forecast t.F_written_forecast.kp t.b_written_forecast (acons (fv 7) anil)) (acons (fv 4) anil))))) (fwor1 (fnotT (ftru (fcall (ok_law_same t 4) (hr.mono (by decide)) (by rfl) t.g_law_same t.F_law_same.kp t.b_law_same (acons (fcallK [0] (ok_written_forecast t) (hr.mono (by decide)) (by rfl) t.g_written_forecast t.F_written_forecast.kp (t.k_written_forecast) (kcons (fv 7) knil)) (acons (fv 4) anil)))))))))
  (sone (fret fbl))
  snil)))))))))
  (sone (fret (fcall (ok_law_same t 4) (hr.mono (by decide)) (by rfl) t.g_law_same t.F_law_same.kp t.b_law_same (acons (fcall (ok_written_forecast t) (hr.mono (by decide)) (by rfl) t.g_written_forecast t.F_written_forecast.kp t.b_written_forecast (acons (ftup (acons (ftup (acons fstr (acons fint (acons fint anil)))) anil)) anil)) (acons fstr anil)))))))
end
end L71

set_option Elab.async false
set_option linter.all false
set_option maxRecDepth 100000
set_option maxHeartbeats 4000000
namespace L71
open PySem PySem.Spec PyProof.Rows L2 PF
local macro_rules | `(tactic| walk_at "pf") => `(tactic| try simp (disch := first | omega | assumption | (simp only [List.length_cons, List.length_nil, List.length_map, List.length_append, List.length_set]; omega)) only [↓reduceIte, kfn0, kseq, kbind, kbindS, bnd_app, bndS_app, sqK_app, finK_app, finN_app, noK_app, noEx_ok, wp_eC, wp_tInTab, wp_eIxTab, ixTab_str, inTab_str, lookup_c, lookup_n, gIn_sign, gNotIn_sign, gIn_str2, gEq_nil, trP_A0, trP_L0, Option.isSome_some, Option.isSome_none, Bool.not_true, Bool.not_false, wp_eBin, wp_eCmp, wp_eAnd, wp_eOr, wp_eNot, wp_eIf, wp_eTup, wp_eLst, wp_eNew, wp_eSl, wp_eCall, wp_eIsi, wp_eNeg, wp_eFn0, wp_eFn, wp_eFnK0, wp_eFnK, wp_eLc, wp_eListNew, wp_eCatNew, wp_eMe, wp_eMe0, wp_tCmp, wp_tTru, wp_tAndF, wp_tOrF, wp_tNotF, wp_tYesF, wp_tChainF, wp_aNil, wp_aCons, wp_oNone, wp_oSome, wp_iSeq, wp_iEnumF, wp_iRng1F, wp_iRng2F, rngR1_int, rngR2_int, wp_sNext, wp_sIf, wp_sExpr, wp_sRet, wp_sRetN, wp_sBad, wp_sBrk, wp_sCont, wp_sSet, wp_sAug, wp_sSub, wp_sFor, wp_sAsg, wp_sPar, wp_sPar3, sizeK, 
  cMod_pos, cDiv_pos, cMul_r, cMul_l, cPow_of, fmod_pos, fdiv_pos, ixN0, ixN1, ixN2, ixN3, 
  ixN4, ixN5, at_set, gIx_set, gLen_set, setIx_set, gAppend_setK, gAppend_L0, gTuple_L0, gLen_L0, gIx_L0, lstOf_L0, itOf_L0, gAppend_A0, gTuple_A0, gLen_A0, gIx_A0, lstOf_A0, itOf_A0, rngOk_of, 
  Option.some.injEq, exists_eq_left', true_and, txt_beq, txt_eq, String.reduceEq, decide_true, decide_false, List.set_set, List.length_set, wp_ok, wp_bad, wp_ite, wpS_ite, wp_noEx, wpS_next, wpS_ret, 
  wpS_brk, wpS_cont, wpS_bad, gSl_lst, gSl_tup, gSl_scr, cutP_tail, fin_false, permL_0, permL_01, permL_10, trP_non, trP_bl, trP_int, trP_tup, trP_lst, trP_scr, trP_strK, intOf_int, blOf_bl, tyP_non, tyP_bl, tyP_int, tyP_str, tyP_tup, tyP_lst, tyP_ref, isB_NoneType_tuple, isB_NoneType_int, isB_NoneType_bool, isB_NoneType_str, isB_NoneType_list, isB_bool_tuple, isB_bool_int, isB_bool_bool, isB_bool_str, isB_bool_list, isB_int_tuple, isB_int_int, isB_int_bool, isB_int_str, isB_int_list, isB_str_tuple, isB_str_int, isB_str_bool, isB_str_str, isB_str_list, isB_tuple_tuple, isB_tuple_int, isB_tuple_bool, isB_tuple_str, isB_tuple_list, isB_list_tuple, isB_list_int, isB_list_bool, isB_list_str, isB_list_list, isTy_ref, isTy_lst, isTy_scr, isTy_str, Bool.true_and, Bool.and_true, Bool.or_false, Bool.false_or, Bool.and_false, Bool.false_and, Bool.or_true, Bool.true_or, beq_self_eq_true, lstOf_lst, seqOf_lst, seqOf_tup, seqOf_scr, seqOf_ref, itOf_tup, itOf_lst, itOf_scr, itOf_str, enumOf_lst, enumOf_scr, enumOf_ref, atI_gt, gtName, gtTup, gtCons, gtNil, wipeP, eVar_zero, eVar_succ, List.set_cons_zero, List.set_cons_succ, 
  List.map_cons, List.map_nil, List.length_cons, List.length_nil, List.cons_append, List.nil_append, List.append_nil, List.isEmpty_nil, List.isEmpty_cons, List.append_assoc, List.length_append, set_app, List.replicate, env0, ofOpt_some, ofOpt_none, Option.map_some, Option.map_none, 
  gAdd_int, gSub_int, gMul_int, gDiv_int, gMod_int, gPow_int, gAdd_strK, gAdd_tupK, gAdd_lstK, gLt_int, gLe_int, gGt_int, gGe_int, gEq_int, gEq_str, gEq_bl, gNe_int, gNe_str, gNe_bl, gIs_non, 
  gIs_int, gIs_str, gIs_tup, gIs_lst, gIs_bl, gIsNot_non, gIsNot_int, gIsNot_tup, gIx_tup, gIx_lst, gIx_scr, gLen_tup, gLen_lst, gLen_scr, gLen_strK, gAbs_int, gIntA_int, gIntA_bl, gIntA_str, 
  gStrA_intK, gStrA_str, gMaxA_int, gMinA_int, gTuple_tup, gTuple_lst, gTuple_L0, gList_tup, gList_lst, gList_scr, atI_zero, atI_one, atI_two, atI_three, atI_four, Nat.reduceAdd, Nat.reduceSub, 
  Nat.reduceLeDiff, Bool.false_eq_true, decide_eq_true_eq, beq_iff_eq, Nat.sub_self, Nat.zero_sub])
/-- the pool: what is left of a digit store, the seed, the next cell, the script -/
def PoolOk (ps : List PV) : Prop := ∃ (a b c : Int) (l : List Int), ps = .int a :: .int b :: .int c :: l.map .int ∧ 0 ≤ a ∧ 0 ≤ b ∧ b < 2147483647 ∧ 3 ≤ c ∧ l.length ≤ 63
theorem pool_cell {a b c : Int} {l : List Int} (hc : 3 ≤ c) (h : c < ((l.length + 1 + 1 + 1 : Nat) : Int)) : ∃ z, atI (PV.int a :: PV.int b :: PV.int c :: l.map .int) c = some (.int z) := by
  rw [atI_nn _ _ (by omega)]
  obtain ⟨k, hk⟩ : ∃ k : Nat, c.toNat = k + 3 := ⟨c.toNat - 3, by omega⟩
  rw [hk]
  have hk2 : k < l.length := by omega
  refine ⟨l[k], ?_⟩
  simp [hk2]
theorem ints_cl (n : Nat) : ∀ l : List Int, clL n (l.map .int) = true
  | [] => rfl
  | x :: l => by simp [clL, clP, ints_cl n l]
theorem pool_cl {ps : List PV} (h : PoolOk ps) (n : Nat) : clC n (.lst ps) = true := by
  obtain ⟨a, b, c, l, rfl, _⟩ := h
  simp [clC, clL, clP, ints_cl]
theorem draw_wp {H : IH} {r : Nat} {ps : List PV} {m : Int} {Q : PV → IH → Prop} (hr : r < H.length) (ok : PoolOk ps) (hm : 0 < m) (hm2 : m < 1073741824)
    (q : ∀ d ps', 0 ≤ d → d < m → PoolOk ps' → Q (.int d) (H.set r (.lst ps'))) : (f_law_draw [.ref r, .int m] (H.set r (.lst ps))).wp Q := by
  obtain ⟨a, b, c, l, rfl, ha, hb, hb2, hc, hl⟩ := ok
  unfold f_law_draw
  have fin_ok : ∀ (d a' b' c' : Int), 0 ≤ d → d < m → 0 ≤ a' → 0 ≤ b' → b' < 2147483647 → 3 ≤ c' → (fin true (H.set r (.lst (.int a :: .int b :: .int c :: l.map .int))) (.int d) (H.set r (.lst (.int a' :: .int b' :: .int c' :: l.map .int)))).wp Q :=
    fun d a' b' c' h1 h2 h3 h4 h5 h6 => fin_pool0 hr rfl (pool_cl ⟨a', b', c', l, rfl, h3, h4, h5, h6, hl⟩ _) (q d _ h1 h2 ⟨a', b', c', l, rfl, h3, h4, h5, h6, hl⟩)
  rw [wp_fn0, wp_seq]
  refine SRes.wp.mono (N := fun e H1 => ∃ (x3 : Option PV) (a' b' c' : Int), e = [some (.ref r), some (.int m), x3, none, none] ∧ 0 ≤ a' ∧ 0 ≤ b' ∧ b' < 2147483647 ∧ 3 ≤ c' ∧ H1 = H.set r (.lst (.int a' :: .int b' :: .int c' :: l.map .int))) (R := fun _ _ => False) (B := fun _ _ => False) (C := fun _ _ => False) ?_ ?_ (fun _ _ h => h.elim) (fun _ _ h => h) (fun _ _ h => h)
  · walk_at "pf"
    by_cases h0 : a = 0
    · subst h0
      simp only [if_true]
      simp only [List.length_map]
      by_cases h1 : c < ((l.length + 1 + 1 + 1 : Nat) : Int)
      · obtain ⟨z, hz⟩ := pool_cell (a := 0) (b := b) hc h1
        rw [if_pos h1]
        simp only [hz]
        walk_at "pf"
        split <;> split <;> exact ⟨_, _, _, _, rfl, by omega, by omega, by omega, by omega, rfl⟩
      · rw [if_neg h1]
        exact ⟨_, _, _, _, rfl, by omega, by omega, by omega, by omega, rfl⟩
    · rw [if_neg h0]
      exact ⟨_, _, _, _, rfl, by omega, by omega, by omega, by omega, rfl⟩
  · rintro e H1 ⟨x3, a', b', c', rfl, h1, h2, h3, h4, rfl⟩
    walk_at "pf"
    split
    · refine fin_ok _ _ _ _ (Int.emod_nonneg _ (by omega)) (Int.emod_lt_of_pos _ hm) (Int.ediv_nonneg h1 (by omega)) h2 h3 h4
    · refine fin_ok _ _ _ _ (Int.emod_nonneg _ (by omega)) (Int.emod_lt_of_pos _ hm) h1 (by omega) (by omega) h4

end L71

set_option Elab.async false
set_option linter.all false
set_option maxRecDepth 100000
set_option maxHeartbeats 4000000
namespace L71
open PySem PySem.Spec PyProof.Rows L2 PF
local macro_rules | `(tactic| walk_at "pf") => `(tactic| try simp (disch := first | omega | assumption | (simp only [List.length_cons, List.length_nil, List.length_map, List.length_append, List.length_set]; omega)) only [↓reduceIte, kfn0, kseq, kbind, kbindS, bnd_app, bndS_app, sqK_app, finK_app, finN_app, noK_app, noEx_ok, wp_eC, wp_tInTab, wp_eIxTab, ixTab_str, inTab_str, lookup_c, lookup_n, gIn_sign, gNotIn_sign, gIn_str2, gEq_nil, trP_A0, trP_L0, Option.isSome_some, Option.isSome_none, Bool.not_true, Bool.not_false, wp_eBin, wp_eCmp, wp_eAnd, wp_eOr, wp_eNot, wp_eIf, wp_eTup, wp_eLst, wp_eNew, wp_eSl, wp_eCall, wp_eIsi, wp_eNeg, wp_eFn0, wp_eFn, wp_eFnK0, wp_eFnK, wp_eLc, wp_eListNew, wp_eCatNew, wp_eMe, wp_eMe0, wp_tCmp, wp_tTru, wp_tAndF, wp_tOrF, wp_tNotF, wp_tYesF, wp_tChainF, wp_aNil, wp_aCons, wp_oNone, wp_oSome, wp_iSeq, wp_iEnumF, wp_iRng1F, wp_iRng2F, rngR1_int, rngR2_int, wp_sNext, wp_sIf, wp_sExpr, wp_sRet, wp_sRetN, wp_sBad, wp_sBrk, wp_sCont, wp_sSet, wp_sAug, wp_sSub, wp_sFor, wp_sAsg, wp_sPar, wp_sPar3, sizeK, 
  cMod_pos, cDiv_pos, cMul_r, cMul_l, cPow_of, fmod_pos, fdiv_pos, ixN0, ixN1, ixN2, ixN3, 
  ixN4, ixN5, at_set, gIx_set, gLen_set, setIx_set, gAppend_setK, gAppend_L0, gTuple_L0, gLen_L0, gIx_L0, lstOf_L0, itOf_L0, gAppend_A0, gTuple_A0, gLen_A0, gIx_A0, lstOf_A0, itOf_A0, rngOk_of, 
  Option.some.injEq, exists_eq_left', true_and, txt_beq, txt_eq, String.reduceEq, decide_true, decide_false, List.set_set, List.length_set, wp_ok, wp_bad, wp_ite, wpS_ite, wp_noEx, wpS_next, wpS_ret, 
  wpS_brk, wpS_cont, wpS_bad, gSl_lst, gSl_tup, gSl_scr, cutP_tail, fin_false, permL_0, permL_01, permL_10, trP_non, trP_bl, trP_int, trP_tup, trP_lst, trP_scr, trP_strK, intOf_int, blOf_bl, tyP_non, tyP_bl, tyP_int, tyP_str, tyP_tup, tyP_lst, tyP_ref, isB_NoneType_tuple, isB_NoneType_int, isB_NoneType_bool, isB_NoneType_str, isB_NoneType_list, isB_bool_tuple, isB_bool_int, isB_bool_bool, isB_bool_str, isB_bool_list, isB_int_tuple, isB_int_int, isB_int_bool, isB_int_str, isB_int_list, isB_str_tuple, isB_str_int, isB_str_bool, isB_str_str, isB_str_list, isB_tuple_tuple, isB_tuple_int, isB_tuple_bool, isB_tuple_str, isB_tuple_list, isB_list_tuple, isB_list_int, isB_list_bool, isB_list_str, isB_list_list, isTy_ref, isTy_lst, isTy_scr, isTy_str, Bool.true_and, Bool.and_true, Bool.or_false, Bool.false_or, Bool.and_false, Bool.false_and, Bool.or_true, Bool.true_or, beq_self_eq_true, lstOf_lst, seqOf_lst, seqOf_tup, seqOf_scr, seqOf_ref, itOf_tup, itOf_lst, itOf_scr, itOf_str, enumOf_lst, enumOf_scr, enumOf_ref, atI_gt, gtName, gtTup, gtCons, gtNil, wipeP, eVar_zero, eVar_succ, List.set_cons_zero, List.set_cons_succ, 
  List.map_cons, List.map_nil, List.length_cons, List.length_nil, List.cons_append, List.nil_append, List.append_nil, List.isEmpty_nil, List.isEmpty_cons, List.append_assoc, List.length_append, set_app, List.replicate, env0, ofOpt_some, ofOpt_none, Option.map_some, Option.map_none, 
  gAdd_int, gSub_int, gMul_int, gDiv_int, gMod_int, gPow_int, gAdd_strK, gAdd_tupK, gAdd_lstK, gLt_int, gLe_int, gGt_int, gGe_int, gEq_int, gEq_str, gEq_bl, gNe_int, gNe_str, gNe_bl, gIs_non, 
  gIs_int, gIs_str, gIs_tup, gIs_lst, gIs_bl, gIsNot_non, gIsNot_int, gIsNot_tup, gIx_tup, gIx_lst, gIx_scr, gLen_tup, gLen_lst, gLen_scr, gLen_strK, gAbs_int, gIntA_int, gIntA_bl, gIntA_str, 
  gStrA_intK, gStrA_str, gMaxA_int, gMinA_int, gTuple_tup, gTuple_lst, gTuple_L0, gList_tup, gList_lst, gList_scr, atI_zero, atI_one, atI_two, atI_three, atI_four, Nat.reduceAdd, Nat.reduceSub, 
  Nat.reduceLeDiff, Bool.false_eq_true, decide_eq_true_eq, beq_iff_eq, Nat.sub_self, Nat.zero_sub])
theorem pick_wp {H : IH} {r : Nat} {ps xs : List PV} {Q : PV → IH → Prop} (hr : r < H.length) (ok : PoolOk ps) (h0 : 0 < xs.length) (h1 : xs.length < 1073741824) (hcl : ∀ p ∈ xs, clP H.length p = true)
    (q : ∀ p ps', p ∈ xs → PoolOk ps' → Q p (H.set r (.lst ps'))) : (f_law_pick [.ref r, .lst xs] (H.set r (.lst ps))).wp Q := by
  unfold f_law_pick
  walk_at "pf"
  refine draw_wp hr ok (by omega) (by omega) fun d ps' h2 h3 ok' => ?_
  walk_at "pf"
  have hd : d.toNat < xs.length := by omega
  rw [atI_nn _ _ h2, List.getElem?_eq_getElem hd]
  walk_at "pf"
  exact fin_pool0 hr (hcl _ (List.getElem_mem hd)) (pool_cl ok' _) (q _ _ (List.getElem_mem hd) ok')
theorem weather_wp {H : IH} {r : Nat} {ps : List PV} {Q : PV → IH → Prop} (hr : r < H.length) (ok : PoolOk ps)
    (q : ∀ c s ps', 0 ≤ c → c ≤ 9999 → 0 ≤ s → s ≤ 9999 → PoolOk ps' → Q (.tup [.int c, .int s]) (H.set r (.lst ps'))) : (f_law_weather [.ref r] (H.set r (.lst ps))).wp Q := by
  unfold f_law_weather
  walk_at "pf"
  refine draw_wp hr ok (by omega) (by omega) fun d ps1 h2 h3 ok1 => ?_
  walk_at "pf"
  refine pick_wp hr ok1 (by simp) (by simp) (by simp [clP]) fun p ps2 hp ok2 => ?_
  obtain ⟨c, rfl, hc0, hc1⟩ : ∃ c, p = .int c ∧ 0 ≤ c ∧ c ≤ 9999 := by
    simp only [List.mem_cons, List.not_mem_nil, or_false] at hp
    rcases hp with rfl | rfl | rfl | rfl | rfl | rfl | rfl | rfl <;> exact ⟨_, rfl, by omega, by omega⟩
  walk_at "pf"
  refine draw_wp hr ok2 (by omega) (by omega) fun d ps3 h4 h5 ok3 => ?_
  walk_at "pf"
  refine pick_wp hr ok3 (by simp) (by simp) (by simp [clP]) fun p ps4 hp ok4 => ?_
  obtain ⟨s, rfl, hs0, hs1⟩ : ∃ c, p = .int c ∧ 0 ≤ c ∧ c ≤ 9999 := by
    simp only [List.mem_cons, List.not_mem_nil, or_false] at hp
    rcases hp with rfl | rfl | rfl | rfl | rfl | rfl | rfl | rfl <;> exact ⟨_, rfl, by omega, by omega⟩
  walk_at "pf"
  exact fin_pool0 hr rfl (pool_cl ok4 _) (q _ _ _ hc0 hc1 hs0 hs1 ok4)

/-! ### forecasts -/
inductive Grp where
  | base (c s : Int) | from_ (t c s : Int) | slow (a b c s : Int) | at_ (a b c s : Int) | may (a b c s : Int)
def enc : Grp → PV
  | .base c s => .tup [.str "BASE", .int c, .int s]
  | .from_ t c s => .tup [.str "FROM", .int t, .int c, .int s]
  | .slow a b c s => .tup [.str "SLOWLY", .int a, .int b, .int c, .int s]
  | .at_ a b c s => .tup [.str "AT", .int a, .int b, .int c, .int s]
  | .may a b c s => .tup [.str "MAY", .int a, .int b, .int c, .int s]
def InR (i : Int) : Prop := 0 ≤ i ∧ i ≤ 9999
def nextL (l : Int) : Grp → Int
  | .from_ t _ _ => t + 1
  | .slow _ b _ _ => b
  | _ => l
def ok1 (l : Int) : Grp → Prop
  | .base _ _ => False
  | .from_ t c s => l ≤ t ∧ InR t ∧ InR c ∧ InR s
  | .slow a b c s => a < b ∧ l ≤ a ∧ InR a ∧ InR b ∧ InR c ∧ InR s
  | .at_ a b c s => a < b ∧ InR a ∧ InR b ∧ InR c ∧ InR s
  | .may a b c s => a < b ∧ InR a ∧ InR b ∧ InR c ∧ InR s
def okAll : Int → List Grp → Prop
  | _, [] => True
  | l, g :: gs => ok1 l g ∧ okAll (nextL l g) gs
theorem okAll_snoc : ∀ (gs : List Grp) (l : Int) (g : Grp), okAll l gs → ok1 (gs.foldl nextL l) g → okAll l (gs ++ [g])
  | [], l, g, _, h => ⟨h, trivial⟩
  | x :: gs, l, g, h, h2 => ⟨h.1, okAll_snoc gs (nextL l x) g h.2 h2⟩
/-- a right forecast -/
def Right (gs : List Grp) : Prop := ∃ c s rest, gs = .base c s :: rest ∧ InR c ∧ InR s ∧ okAll 0 rest ∧ gs.length ≤ 12
theorem enc_cl (n : Nat) (g : Grp) : clP n (enc g) = true := by cases g <;> rfl
theorem encs_cl (n : Nat) : ∀ gs : List Grp, clL n (gs.map enc) = true
  | [] => rfl
  | g :: gs => by simp [clL, enc_cl, encs_cl n gs]
theorem groups_wp {H : IH} {r : Nat} {ps : List PV} {many last : Int} {Q : PV → IH → Prop} (hr : r < H.length) (ok : PoolOk ps) (hm : 0 < many) (hm2 : many ≤ 12) (hl : 0 ≤ last) (hl2 : last ≤ 9990)
    (q : ∀ gs ps', Right gs → (gs.length : Int) ≤ many → PoolOk ps' → Q (.tup (gs.map enc)) (H.set r (.lst ps'))) : (f_law_groups [.ref r, .int many, .int last] (H.set r (.lst ps))).wp Q := by
  unfold f_law_groups
  walk_at "pf"
  refine weather_wp hr ok fun c s ps1 hc0 hc1 hs0 hs1 ok1' => ?_
  walk_at "pf"
  walk_at "pf"
  walk_at "pf"
  refine draw_wp (lt_app hr) ok1' hm (by omega) fun d ps2 hd0 hd1 ok2 => ?_
  walk_at "pf"
  walk_at "pf"
  refine wp_forL (fun i env h => ∃ (ps : List PV) (rest : List Grp) (b e : Int) (x6 x7 x8 x9 : Option PV), env = [some (.ref r), some (.int many), some (.int last), some (.ref H.length), some (.int b), some (.int e), x6, x7, x8, x9] ∧
    h = (H ++ [Cell.lst ((Grp.base c s :: rest).map enc)]).set r (Cell.lst ps) ∧ PoolOk ps ∧ rest.length = i ∧ okAll 0 rest ∧ rest.foldl nextL 0 = max (b + 1) e ∧ -1 ≤ b ∧ 0 ≤ e ∧ b ≤ 9 * i ∧ e ≤ 9 * i) _ 0 _ _ ?_ ?_ ?_ ?_
  · exact ⟨ps2, [], -1, 0, _, _, _, _, rfl, rfl, ok2, rfl, trivial, rfl, by omega, by omega, by omega, by omega⟩
  · intros; trivial
  · rintro j x env h hj ⟨ps, rest, b, e, x6, x7, x8, x9, rfl, rfl, okp, hlen, hok, hmx, hb, he, hb2, he2⟩
    walk_at "pf"
    refine pick_wp (lt_app hr) okp (by simp) (by simp) (by simp [clP]) fun p ps1 hp ok1 => ?_
    walk_at "pf"
    refine draw_wp (lt_app hr) ok1 (by omega) (by omega) fun d1 ps2 hd10 hd11 ok2 => ?_
    walk_at "pf"
    refine draw_wp (lt_app hr) ok2 (by omega) (by omega) fun d2 ps3 hd20 hd21 ok3 => ?_
    walk_at "pf"
    simp only [List.mem_cons, List.not_mem_nil, or_false] at hp
    have hj2 : j < 12 := by
      have h1 := (List.getElem?_eq_some_iff.mp hj).1
      simp only [rngP, List.length_map, List.length_range] at h1
      omega
    have hbe : (if e > b + 1 then e else b + 1) = max (b + 1) e := by omega
    rw [hbe]
    have hcl : ∀ ps', PoolOk ps' → True := fun _ _ => trivial
    have snoc : ∀ g, L71.ok1 (max (b + 1) e) g → okAll 0 (rest ++ [g]) := fun g hg => okAll_snoc rest 0 g hok (by rw [hmx]; exact hg)
    have hfold : ∀ g, (rest ++ [g]).foldl nextL 0 = nextL (max (b + 1) e) g := fun g => by rw [List.foldl_append, hmx]; rfl
    have hcast : ∀ g : Grp, List.map enc (Grp.base c s :: rest) ++ [enc g] = (Grp.base c s :: (rest ++ [g])).map enc := fun g => by simp
    rcases hp with rfl | rfl | rfl | rfl
    · walk_at "pf"
      refine weather_wp (lt_app hr) ok3 fun c' s' ps4 hc0' hc1' hs0' hs1' ok4 => ?_
      walk_at "pf"
      refine ⟨ps4, rest ++ [.from_ (max (b + 1) e + d1) c' s'], _, _, _, _, _, _, rfl, by simp [enc], ok4, by simp only [List.length_append, List.length_cons, List.length_nil]; omega, snoc (.from_ (max (b + 1) e + d1) c' s') ⟨by omega, ⟨by omega, by omega⟩, ⟨by omega, by omega⟩, by omega, by omega⟩, ?_, by omega, by omega, by omega, by omega⟩
      rw [hfold]
      simp only [nextL]
      omega
    · walk_at "pf"
      refine weather_wp (lt_app hr) ok3 fun c' s' ps4 hc0' hc1' hs0' hs1' ok4 => ?_
      walk_at "pf"
      refine ⟨ps4, rest ++ [.slow (max (b + 1) e + d1) (max (b + 1) e + d1 + 1 + d2) c' s'], _, _, _, _, _, _, rfl, by simp [enc], ok4, by simp only [List.length_append, List.length_cons, List.length_nil]; omega, snoc (.slow (max (b + 1) e + d1) (max (b + 1) e + d1 + 1 + d2) c' s') ⟨by omega, by omega, ⟨by omega, by omega⟩, ⟨by omega, by omega⟩, ⟨by omega, by omega⟩, by omega, by omega⟩, ?_, by omega, by omega, by omega, by omega⟩
      rw [hfold]
      simp only [nextL]
      omega
    · walk_at "pf"
      refine draw_wp (lt_app hr) ok3 (by omega) (by omega) fun d3 ps4 hd30 hd31 ok4 => ?_
      walk_at "pf"
      refine draw_wp (lt_app hr) ok4 (by omega) (by omega) fun d4 ps5 hd40 hd41 ok5 => ?_
      walk_at "pf"
      refine weather_wp (lt_app hr) ok5 fun c' s' ps4 hc0' hc1' hs0' hs1' ok4 => ?_
      walk_at "pf"
      refine ⟨ps4, rest ++ [.at_ d3 (d3 + 1 + d4) c' s'], _, _, _, _, _, _, rfl, by simp [enc], ok4, by simp only [List.length_append, List.length_cons, List.length_nil]; omega, snoc (.at_ d3 (d3 + 1 + d4) c' s') ⟨by omega, ⟨by omega, by omega⟩, ⟨by omega, by omega⟩, ⟨by omega, by omega⟩, by omega, by omega⟩, ?_, by omega, by omega, by omega, by omega⟩
      rw [hfold]
      simp only [nextL]
    · walk_at "pf"
      refine draw_wp (lt_app hr) ok3 (by omega) (by omega) fun d3 ps4 hd30 hd31 ok4 => ?_
      walk_at "pf"
      refine draw_wp (lt_app hr) ok4 (by omega) (by omega) fun d4 ps5 hd40 hd41 ok5 => ?_
      walk_at "pf"
      refine weather_wp (lt_app hr) ok5 fun c' s' ps4 hc0' hc1' hs0' hs1' ok4 => ?_
      walk_at "pf"
      refine ⟨ps4, rest ++ [.may d3 (d3 + 1 + d4) c' s'], _, _, _, _, _, _, rfl, by simp [enc], ok4, by simp only [List.length_append, List.length_cons, List.length_nil]; omega, snoc (.may d3 (d3 + 1 + d4) c' s') ⟨by omega, ⟨by omega, by omega⟩, ⟨by omega, by omega⟩, ⟨by omega, by omega⟩, by omega, by omega⟩, ?_, by omega, by omega, by omega, by omega⟩
      rw [hfold]
      simp only [nextL]
  · rintro env h ⟨ps, rest, b, e, x6, x7, x8, x9, rfl, rfl, okp, hlen, hok, hmx, hb, he, hb2, he2⟩
    walk_at "pf"
    have hl : (rngP 0 d).xs.length = d.toNat := by simp [rngP]
    refine fin_pool hr ?_ (pool_cl okp _) ?_
    · exact encs_cl _ (.base c s :: rest)
    · refine q (.base c s :: rest) _ ⟨c, s, rest, rfl, ⟨by omega, by omega⟩, ⟨by omega, by omega⟩, hok, ?_⟩ ?_ okp
      · simp only [List.length_cons]; omega
      · simp only [List.length_cons]; omega
end L71

set_option Elab.async false
set_option linter.all false
set_option maxRecDepth 100000
set_option maxHeartbeats 4000000
namespace L71
open PySem PySem.Spec PyProof.Rows L2 PF TL
local macro_rules | `(tactic| walk_at "pf") => `(tactic| try simp (disch := first | omega | assumption | (simp only [List.length_cons, List.length_nil, List.length_map, List.length_append, List.length_set]; omega)) only [↓reduceIte, kfn0, kseq, kbind, kbindS, bnd_app, bndS_app, sqK_app, finK_app, finN_app, noK_app, noEx_ok, wp_eC, wp_tInTab, wp_eIxTab, ixTab_str, inTab_str, lookup_c, lookup_n, gIn_sign, gNotIn_sign, gIn_str2, gEq_nil, trP_A0, trP_L0, Option.isSome_some, Option.isSome_none, Bool.not_true, Bool.not_false, wp_eBin, wp_eCmp, wp_eAnd, wp_eOr, wp_eNot, wp_eIf, wp_eTup, wp_eLst, wp_eNew, wp_eSl, wp_eCall, wp_eIsi, wp_eNeg, wp_eFn0, wp_eFn, wp_eFnK0, wp_eFnK, wp_eLc, wp_eListNew, wp_eCatNew, wp_eMe, wp_eMe0, wp_tCmp, wp_tTru, wp_tAndF, wp_tOrF, wp_tNotF, wp_tYesF, wp_tChainF, wp_aNil, wp_aCons, wp_oNone, wp_oSome, wp_iSeq, wp_iEnumF, wp_iRng1F, wp_iRng2F, rngR1_int, rngR2_int, wp_sNext, wp_sIf, wp_sExpr, wp_sRet, wp_sRetN, wp_sBad, wp_sBrk, wp_sCont, wp_sSet, wp_sAug, wp_sSub, wp_sFor, wp_sAsg, wp_sPar, wp_sPar3, sizeK, 
  cMod_pos, cDiv_pos, cMul_r, cMul_l, cPow_of, fmod_pos, fdiv_pos, ixN0, ixN1, ixN2, ixN3, 
  ixN4, ixN5, at_set, gIx_set, gLen_set, setIx_set, gAppend_setK, gAppend_L0, gTuple_L0, gLen_L0, gIx_L0, lstOf_L0, itOf_L0, gAppend_A0, gTuple_A0, gLen_A0, gIx_A0, lstOf_A0, itOf_A0, rngOk_of, 
  Option.some.injEq, exists_eq_left', true_and, txt_beq, txt_eq, String.reduceEq, decide_true, decide_false, List.set_set, List.length_set, wp_ok, wp_bad, wp_ite, wpS_ite, wp_noEx, wpS_next, wpS_ret, 
  wpS_brk, wpS_cont, wpS_bad, gSl_lst, gSl_tup, gSl_scr, cutP_tail, fin_false, permL_0, permL_01, permL_10, trP_non, trP_bl, trP_int, trP_tup, trP_lst, trP_scr, trP_strK, intOf_int, blOf_bl, tyP_non, tyP_bl, tyP_int, tyP_str, tyP_tup, tyP_lst, tyP_ref, isB_NoneType_tuple, isB_NoneType_int, isB_NoneType_bool, isB_NoneType_str, isB_NoneType_list, isB_bool_tuple, isB_bool_int, isB_bool_bool, isB_bool_str, isB_bool_list, isB_int_tuple, isB_int_int, isB_int_bool, isB_int_str, isB_int_list, isB_str_tuple, isB_str_int, isB_str_bool, isB_str_str, isB_str_list, isB_tuple_tuple, isB_tuple_int, isB_tuple_bool, isB_tuple_str, isB_tuple_list, isB_list_tuple, isB_list_int, isB_list_bool, isB_list_str, isB_list_list, isTy_ref, isTy_lst, isTy_scr, isTy_str, Bool.true_and, Bool.and_true, Bool.or_false, Bool.false_or, Bool.and_false, Bool.false_and, Bool.or_true, Bool.true_or, beq_self_eq_true, lstOf_lst, seqOf_lst, seqOf_tup, seqOf_scr, seqOf_ref, itOf_tup, itOf_lst, itOf_scr, itOf_str, enumOf_lst, enumOf_scr, enumOf_ref, atI_gt, gtName, gtTup, gtCons, gtNil, wipeP, eVar_zero, eVar_succ, List.set_cons_zero, List.set_cons_succ, 
  List.map_cons, List.map_nil, List.length_cons, List.length_nil, List.cons_append, List.nil_append, List.append_nil, List.isEmpty_nil, List.isEmpty_cons, List.append_assoc, List.length_append, set_app, List.replicate, env0, ofOpt_some, ofOpt_none, Option.map_some, Option.map_none, 
  gAdd_int, gSub_int, gMul_int, gDiv_int, gMod_int, gPow_int, gAdd_strK, gAdd_tupK, gAdd_lstK, gLt_int, gLe_int, gGt_int, gGe_int, gEq_int, gEq_str, gEq_bl, gNe_int, gNe_str, gNe_bl, gIs_non, 
  gIs_int, gIs_str, gIs_tup, gIs_lst, gIs_bl, gIsNot_non, gIsNot_int, gIsNot_tup, gIx_tup, gIx_lst, gIx_scr, gLen_tup, gLen_lst, gLen_scr, gLen_strK, gAbs_int, gIntA_int, gIntA_bl, gIntA_str, 
  gStrA_intK, gStrA_str, gMaxA_int, gMinA_int, gTuple_tup, gTuple_lst, gTuple_L0, gList_tup, gList_lst, gList_scr, atI_zero, atI_one, atI_two, atI_three, atI_four, Nat.reduceAdd, Nat.reduceSub, 
  Nat.reduceLeDiff, Bool.false_eq_true, decide_eq_true_eq, beq_iff_eq, Nat.sub_self, Nat.zero_sub])
/-! ### words -/
def smp : Nat → PV → Bool
  | 0, _ => false
  | n + 1, .tup xs => xs.length < 1000 && xs.all (smp n)
  | _ + 1, .int _ => true
  | _ + 1, .str _ => true
  | _ + 1, .non => true
  | _ + 1, _ => false
/-- a word that is a number -/
def NumW (w : Str) (n : Int) : Prop := 1 ≤ w.length ∧ w.length ≤ 4 ∧ NumText.AllDigits (tl w) ∧ PySem.intText? w = some n
/-- a word that is none -/
def TxtW (w : Str) : Prop := w.length ≤ 16777216 ∧ ∃ c, (tl w)[0]? = some c ∧ ¬ (48 ≤ c ∧ c ≤ 57)
theorem digits_mem {c : Nat} : c ∈ (Str.ofString "0123456789").cps.toList ↔ 48 ≤ c ∧ c ≤ 57 := by
  have e : (Str.ofString "0123456789").cps.toList = [48, 49, 50, 51, 52, 53, 54, 55, 56, 57] := by decide +kernel
  rw [e]
  simp only [List.mem_cons, List.not_mem_nil, or_false]
  omega
theorem number_in_num {w : Str} {n : Int} {H : IH} {Q : PV → IH → Prop} (hw : NumW w n) (q : Q (.int n) H) : (f_number_in [.str w] H).wp Q := by
  obtain ⟨h1, h2, h3, h4⟩ := hw
  unfold f_number_in
  walk_at "pf"
  rw [if_neg (by omega), if_neg (by omega)]
  refine wp_forL (fun i env h => (∃ x1, env = [some (.str w), x1]) ∧ h = H) _ 0 _ _ ⟨⟨_, rfl⟩, rfl⟩ (fun _ _ _ _ => trivial) ?_ ?_
  · rintro j x env h hj ⟨⟨x1, rfl⟩, rfl⟩
    have hx := List.mem_of_getElem? hj
    simp only [PF.signs, List.mem_map] at hx
    obtain ⟨c, hc, rfl⟩ := hx
    have hd := digits_mem.mpr (h3 c hc)
    walk_at "pf"
    rw [if_neg (by simpa using hd)]
    exact ⟨⟨_, rfl⟩, trivial⟩
  · rintro env h ⟨⟨x1, rfl⟩, rfl⟩
    walk_at "pf"
    rw [if_pos (by omega), h4]
    walk_at "pf"
    exact fin_pure0 rfl q
theorem number_in_txt {w : Str} {H : IH} {Q : PV → IH → Prop} (hw : TxtW w) (q : Q .non H) : (f_number_in [.str w] H).wp Q := by
  obtain ⟨h0, c, h1, h2⟩ := hw
  obtain ⟨r, hr⟩ : ∃ r, w.cps.toList = c :: r := by
    unfold tl at h1
    cases hh : w.cps.toList with
    | nil => rw [hh] at h1; cases h1
    | cons a b => rw [hh] at h1; simp at h1; subst h1; exact ⟨b, rfl⟩
  unfold f_number_in
  walk_at "pf"
  have hq : (fin true H .non H).wp Q := fin_pure0 rfl q
  split
  · exact hq
  · split
    · exact hq
    · have hs : PF.signs w = .str ⟨#[c]⟩ :: r.map (fun c => .str ⟨#[c]⟩) := by
        unfold PF.signs; rw [hr]; rfl
      rw [hs]
      unfold forL
      rw [if_pos trivial]
      simp only [gtName]
      have hm : ¬ (c ∈ (Str.ofString "0123456789").cps.toList) := fun h => h2 (digits_mem.mp h)
      have hstep : sIf (PF.tCmp gNotIn (eVar 1) (eC (PV.str (Str.ofString "0123456789")))) (sRet (eC PV.non)) sNext (List.set [some (PV.str w), none] 1 (some (PV.str ⟨#[c]⟩))) H = .ret .non H := by
        simp [sIf, PF.tCmp, eVar, eC, gNotIn_sign, hm, sRet, ofOpt, Res.bind, Res.bindS]
      rw [hstep]
      exact hq
theorem same_step {n : Nat} {fr : FnF} (ih : ∀ (p : PV) {H : IH} {Q : PV → IH → Prop}, smp n p = true → Q (.bl true) H → (fr [p, p] H).wp Q)
    (p : PV) {H : IH} {Q : PV → IH → Prop} (h : smp (n + 1) p = true) (q : Q (.bl true) H) : (mkFn0 true 3 (b_law_same fr) [p, p] H).wp Q := by
    unfold b_law_same
    cases p with
    | non => walk_at "pf"; exact fin_pure0 rfl q
    | int i => walk_at "pf"; exact fin_pure0 rfl q
    | str x => walk_at "pf"; exact fin_pure0 rfl q
    | tup xs =>
      simp only [smp, Bool.and_eq_true, decide_eq_true_eq, List.all_eq_true] at h
      walk_at "pf"
      refine wp_lcL (fun i acc h1 => acc = [] ∧ h1 = H) _ 0 _ _ ⟨rfl, rfl⟩ (fun _ _ _ _ => trivial) ?_ ?_
      · rintro j x acc h1 hj ⟨rfl, rfl⟩
        simp only [rngP, List.getElem?_map, Int.sub_zero, Int.toNat_natCast] at hj
        have hjl : j < xs.length := by
          rcases Nat.lt_or_ge j xs.length with h1 | h1
          · exact h1
          · rw [List.getElem?_eq_none (by simpa using h1)] at hj; cases hj
        rw [List.getElem?_range hjl] at hj
        simp only [Option.map_some, Option.some.injEq, Int.zero_add] at hj
        subst hj
        walk_at "pf"
        refine ih xs[j] (h.2 _ (List.getElem_mem hjl)) ?_
        walk_at "pf"
      · rintro acc h1 ⟨rfl, rfl⟩
        walk_at "pf"
        exact fin_pure0 rfl q
    | _ => cases h
theorem same_refl : ∀ (n : Nat) (p : PV) {H : IH} {Q : PV → IH → Prop}, smp n p = true → Q (.bl true) H → (f_law_same n [p, p] H).wp Q := by
  intro n
  induction n with
  | zero => intro p H Q h; cases p <;> cases h
  | succ n ih => intro p H Q h q; exact same_step ih p h q
end L71

set_option Elab.async false
set_option linter.all false
set_option maxRecDepth 100000
set_option maxHeartbeats 4000000
namespace L71
open PySem PySem.Spec PyProof.Rows L2 PF TL
local macro_rules | `(tactic| walk_at "pf") => `(tactic| try simp (disch := first | omega | assumption | (simp only [List.length_cons, List.length_nil, List.length_map, List.length_append, List.length_set]; omega)) only [↓reduceIte, kfn0, kseq, kbind, kbindS, bnd_app, bndS_app, sqK_app, finK_app, finN_app, noK_app, noEx_ok, wp_eC, wp_tInTab, wp_eIxTab, ixTab_str, inTab_str, lookup_c, lookup_n, gIn_sign, gNotIn_sign, gIn_str2, gEq_nil, trP_A0, trP_L0, Option.isSome_some, Option.isSome_none, Bool.not_true, Bool.not_false, wp_eBin, wp_eCmp, wp_eAnd, wp_eOr, wp_eNot, wp_eIf, wp_eTup, wp_eLst, wp_eNew, wp_eSl, wp_eCall, wp_eIsi, wp_eNeg, wp_eFn0, wp_eFn, wp_eFnK0, wp_eFnK, wp_eLc, wp_eListNew, wp_eCatNew, wp_eMe, wp_eMe0, wp_tCmp, wp_tTru, wp_tAndF, wp_tOrF, wp_tNotF, wp_tYesF, wp_tChainF, wp_aNil, wp_aCons, wp_oNone, wp_oSome, wp_iSeq, wp_iEnumF, wp_iRng1F, wp_iRng2F, rngR1_int, rngR2_int, wp_sNext, wp_sIf, wp_sExpr, wp_sRet, wp_sRetN, wp_sBad, wp_sBrk, wp_sCont, wp_sSet, wp_sAug, wp_sSub, wp_sFor, wp_sAsg, wp_sPar, wp_sPar3, sizeK, 
  cMod_pos, cDiv_pos, cMul_r, cMul_l, cPow_of, fmod_pos, fdiv_pos, ixN0, ixN1, ixN2, ixN3, 
  ixN4, ixN5, at_set, gIx_set, gLen_set, setIx_set, gAppend_setK, gAppend_L0, gTuple_L0, gLen_L0, gIx_L0, lstOf_L0, itOf_L0, gAppend_A0, gTuple_A0, gLen_A0, gIx_A0, lstOf_A0, itOf_A0, rngOk_of, 
  Option.some.injEq, exists_eq_left', true_and, txt_beq, txt_eq, String.reduceEq, decide_true, decide_false, List.set_set, List.length_set, wp_ok, wp_bad, wp_ite, wpS_ite, wp_noEx, wpS_next, wpS_ret, 
  wpS_brk, wpS_cont, wpS_bad, gSl_lst, gSl_tup, gSl_scr, cutP_tail, fin_false, permL_0, permL_01, permL_10, trP_non, trP_bl, trP_int, trP_tup, trP_lst, trP_scr, trP_strK, intOf_int, blOf_bl, tyP_non, tyP_bl, tyP_int, tyP_str, tyP_tup, tyP_lst, tyP_ref, isB_NoneType_tuple, isB_NoneType_int, isB_NoneType_bool, isB_NoneType_str, isB_NoneType_list, isB_bool_tuple, isB_bool_int, isB_bool_bool, isB_bool_str, isB_bool_list, isB_int_tuple, isB_int_int, isB_int_bool, isB_int_str, isB_int_list, isB_str_tuple, isB_str_int, isB_str_bool, isB_str_str, isB_str_list, isB_tuple_tuple, isB_tuple_int, isB_tuple_bool, isB_tuple_str, isB_tuple_list, isB_list_tuple, isB_list_int, isB_list_bool, isB_list_str, isB_list_list, isTy_ref, isTy_lst, isTy_scr, isTy_str, Bool.true_and, Bool.and_true, Bool.or_false, Bool.false_or, Bool.and_false, Bool.false_and, Bool.or_true, Bool.true_or, beq_self_eq_true, lstOf_lst, seqOf_lst, seqOf_tup, seqOf_scr, seqOf_ref, itOf_tup, itOf_lst, itOf_scr, itOf_str, enumOf_lst, enumOf_scr, enumOf_ref, atI_gt, gtName, gtTup, gtCons, gtNil, wipeP, eVar_zero, eVar_succ, List.set_cons_zero, List.set_cons_succ, 
  List.map_cons, List.map_nil, List.length_cons, List.length_nil, List.cons_append, List.nil_append, List.append_nil, List.isEmpty_nil, List.isEmpty_cons, List.append_assoc, List.length_append, set_app, List.replicate, env0, ofOpt_some, ofOpt_none, Option.map_some, Option.map_none, 
  gAdd_int, gSub_int, gMul_int, gDiv_int, gMod_int, gPow_int, gAdd_strK, gAdd_tupK, gAdd_lstK, gLt_int, gLe_int, gGt_int, gGe_int, gEq_int, gEq_str, gEq_bl, gNe_int, gNe_str, gNe_bl, gIs_non, 
  gIs_int, gIs_str, gIs_tup, gIs_lst, gIs_bl, gIsNot_non, gIsNot_int, gIsNot_tup, gIx_tup, gIx_lst, gIx_scr, gLen_tup, gLen_lst, gLen_scr, gLen_strK, gAbs_int, gIntA_int, gIntA_bl, gIntA_str, 
  gStrA_intK, gStrA_str, gMaxA_int, gMinA_int, gTuple_tup, gTuple_lst, gTuple_L0, gList_tup, gList_lst, gList_scr, atI_zero, atI_one, atI_two, atI_three, atI_four, Nat.reduceAdd, Nat.reduceSub, 
  Nat.reduceLeDiff, Bool.false_eq_true, decide_eq_true_eq, beq_iff_eq, Nat.sub_self, Nat.zero_sub])
theorem take_snoc {α : Type} {l : List α} {j : Nat} {g : α} (h : l[j]? = some g) : l.take (j + 1) = l.take j ++ [g] := by rw [List.take_add_one, h]; rfl
def num (i : Int) : Str := Str.ofString (toString i)
def word : Grp → Str
  | .base .. => "BASE" | .from_ .. => "FROM" | .slow .. => "SLOWLY" | .at_ .. => "AT" | .may .. => "MAY"
def nums : Grp → List Int
  | .base c s => [c, s] | .from_ t c s => [t, c, s] | .slow a b c s => [a, b, c, s] | .at_ a b c s => [a, b, c, s] | .may a b c s => [a, b, c, s]
theorem enc_eq (g : Grp) : enc g = .tup (.str (word g) :: (nums g).map .int) := by cases g <;> rfl
def parts (g : Grp) : List Str := word g :: (nums g).map num
def Spl : List Str → List Int → Prop
  | [], [] => True
  | w :: ws, n :: ns => NumW w n ∧ Spl ws ns
  | _, _ => False
def Spell (g : Grp) (ws : List Str) : Prop := ∃ ns, ws = word g :: ns ∧ Spl ns (nums g)
theorem spl_get : ∀ {ws : List Str} {ns : List Int} {j : Nat} {w : Str}, Spl ws ns → ws[j]? = some w → ∃ n, ns[j]? = some n ∧ NumW w n
  | [], _, j, w, _, h => by simp at h
  | x :: ws, [], j, w, h, _ => h.elim
  | x :: ws, n :: ns, 0, w, h, hj => by cases hj; exact ⟨n, rfl, h.1⟩
  | x :: ws, n :: ns, j + 1, w, h, hj => by
    rw [List.getElem?_cons_succ] at hj
    rw [List.getElem?_cons_succ]
    exact spl_get h.2 hj
theorem spl_len : ∀ {ws : List Str} {ns : List Int}, Spl ws ns → ws.length = ns.length
  | [], [], _ => rfl
  | [], _ :: _, h => h.elim
  | _ :: _, [], h => h.elim
  | x :: ws, n :: ns, h => by simp [spl_len h.2]
theorem spl_num {ws : List Str} {ns : List Int} (h : Spl ws ns) {w : Str} (hw : w ∈ ws) : ∃ i, NumW w i := by
  obtain ⟨j, hj⟩ := List.getElem?_of_mem hw
  obtain ⟨n, _, h2⟩ := spl_get h hj
  exact ⟨n, h2⟩
theorem num_w {i : Int} (h : InR i) : NumW (num i) i := by
  obtain ⟨m, rfl⟩ := Int.eq_ofNat_of_zero_le h.1
  have hm : m < 10 ^ 4 := by have := h.2; omega
  have hl := numL_len (k := 4) (by omega) hm
  have e : tl (num (m : Int)) = numL m := tl_num m
  refine ⟨?_, ?_, ?_, int_num (by omega)⟩
  · rw [len_tl, e]
    exact List.length_pos_iff.mpr (numL_ne m)
  · rw [len_tl, e]; exact hl
  · rw [e]; exact numL_digits m
theorem spl_nums : ∀ ns : List Int, (∀ n ∈ ns, InR n) → Spl (ns.map num) ns
  | [], _ => trivial
  | n :: ns, h => ⟨num_w (h n List.mem_cons_self), spl_nums ns fun m hm => h m (List.mem_cons_of_mem _ hm)⟩
theorem word_txt (g : Grp) : TxtW (word g) := by
  cases g
  · exact ⟨by simp only [word]; decide +kernel, 66, by simp only [word]; decide +kernel, by omega⟩
  · exact ⟨by simp only [word]; decide +kernel, 70, by simp only [word]; decide +kernel, by omega⟩
  · exact ⟨by simp only [word]; decide +kernel, 83, by simp only [word]; decide +kernel, by omega⟩
  · exact ⟨by simp only [word]; decide +kernel, 65, by simp only [word]; decide +kernel, by omega⟩
  · exact ⟨by simp only [word]; decide +kernel, 77, by simp only [word]; decide +kernel, by omega⟩
theorem txt_not {w : Str} (h : TxtW w) : ¬ ∃ i, NumW w i := by
  rintro ⟨i, _, _, h3, _⟩
  obtain ⟨_, c, h1, h2⟩ := h
  exact h2 (h3 c (List.mem_of_getElem? h1))
theorem num_len {w : Str} {i : Int} (h : NumW w i) : w.length ≤ 4 := h.2.1
theorem num_free {w : Str} {i : Int} (h : NumW w i) : 32 ∉ tl w := fun hm => by have := h.2.2.1 32 hm; omega
theorem word_free (g : Grp) : 32 ∉ tl (word g) := by cases g <;> simp only [word] <;> decide +kernel
theorem word_len (g : Grp) : (word g).length ≤ 6 := by cases g <;> simp only [word] <;> decide +kernel
/-! ### a group read -/
theorem group_wp {H : IH} {Q : PV → IH → Prop} {g : Grp} {ws : List Str} (hs : Spell g ws) (hn : ∀ a b c d, nums g = [a, b, c, d] → a < b) (q : Q (enc g) H) : (f_forecast_group [.lst (ws.map .str)] H).wp Q := by
  obtain ⟨ns, rfl, hs⟩ := hs
  unfold f_forecast_group
  have hl := spl_len hs
  have hcl : (fin true H (enc g) H).wp Q := fin_pure0 (enc_cl _ g) q
  have hgl : (nums g).length ≤ 4 := by cases g <;> simp [nums]
  have htab : (tab_GROUP_SIZES.lookup (word g)) = some ((nums g).length : Int) := by cases g <;> simp only [word, nums, List.length_cons, List.length_nil] <;> decide +kernel
  walk_at "pf"
  simp only [htab]
  walk_at "pf"
  have hb : (!((((List.map PV.str ns).length + 1 : Nat) : Int) - 1 == ((nums g).length : Int))) = false := by
    rw [List.length_map, hl]
    simp
  rw [hb]
  walk_at "pf"
  refine wp_lcL (fun i acc h1 => acc = ((nums g).take i).map .int ∧ h1 = H) _ 0 _ _ ⟨by simp, rfl⟩ (fun _ _ _ _ => trivial) ?_ ?_
  · rintro j x acc h1 hj ⟨rfl, rfl⟩
    rw [List.getElem?_map] at hj
    cases hw : ns[j]? with
    | none => rw [hw] at hj; cases hj
    | some w =>
      rw [hw] at hj
      cases hj
      obtain ⟨n, hn1, hn2⟩ := spl_get hs hw
      walk_at "pf"
      refine number_in_num hn2 ?_
      simp only [Nat.zero_add]
      rw [take_snoc hn1]
      refine ⟨?_, by simp, trivial⟩
      rw [sizeLine_eq, List.length_map, List.length_take]
      omega
  · rintro acc h1 ⟨rfl, rfl⟩
    rw [List.take_of_length_le (by simp [hl])]
    walk_at "pf"
    have ge4 : ∀ a b c d : Int, a < b → nums g = [a, b, c, d] → (fin true h1 (PV.tup (PV.str (word g) :: List.map PV.int (nums g))) h1).wp Q := fun _ _ _ _ _ _ => by rw [← enc_eq]; exact hcl
    have hfin : (fin true h1 (PV.tup (PV.str (word g) :: List.map PV.int (nums g))) h1).wp Q := by rw [← enc_eq]; exact hcl
    by_cases h4 : (nums g).length = 4
    · obtain ⟨a, b, c, d, e⟩ : ∃ a b c d, nums g = [a, b, c, d] := by cases g <;> simp [nums] at h4 ⊢
      have hab := hn a b c d e
      rw [e] at hfin
      rw [if_pos (by rw [List.length_map, h4]; rfl), e]
      walk_at "pf"
      rw [if_neg (by omega)]
      exact hfin
    · rw [if_neg (by rw [List.length_map]; omega)]
      exact hfin
/-! ### pieces -/
theorem nil_or_snoc {α : Type} (l : List α) : l = [] ∨ ∃ a p, l = a ++ [p] := by
  rcases List.eq_nil_or_concat l with h | ⟨a, p, h⟩
  · exact .inl h
  · exact .inr ⟨a, p, by rw [h, List.concat_eq_append]⟩
theorem atI_last' {α : Type} (l : List α) (x : α) : atI (l ++ [x]) (-1) = some x := by rw [atI_last _ (by simp)]; simp
open Classical in
noncomputable def stepW (acc : List (List Str)) (w : Str) : List (List Str) := if acc = [] ∨ ¬ ∃ i, NumW w i then acc ++ [[w]] else acc.dropLast ++ [acc.getLastD [] ++ [w]]
theorem stepW_new {acc : List (List Str)} {w : Str} (h : acc = [] ∨ ¬ ∃ i, NumW w i) : stepW acc w = acc ++ [[w]] := if_pos h
theorem stepW_add {acc : List (List Str)} {p : List Str} {w : Str} {i : Int} (h : NumW w i) : stepW (acc ++ [p]) w = acc ++ [p ++ [w]] := by
  unfold stepW
  rw [if_neg (by simp only [not_or, Classical.not_not]; exact ⟨by simp, i, h⟩)]
  simp
theorem foldl_nums : ∀ (ns : List Str) (acc : List (List Str)) (p : List Str), (∀ n ∈ ns, ∃ i, NumW n i) → ns.foldl stepW (acc ++ [p]) = acc ++ [p ++ ns]
  | [], acc, p, _ => by simp
  | n :: ns, acc, p, h => by
    obtain ⟨i, hi⟩ := h n List.mem_cons_self
    rw [List.foldl_cons, stepW_add hi, foldl_nums ns acc (p ++ [n]) fun m hm => h m (List.mem_cons_of_mem _ hm)]
    simp
def Piece (ws : List Str) : Prop := ∃ w ns, ws = w :: ns ∧ TxtW w ∧ ∀ n ∈ ns, ∃ i, NumW n i
theorem foldl_pieces : ∀ (wss : List (List Str)) (acc : List (List Str)), (∀ ws ∈ wss, Piece ws) → wss.flatten.foldl stepW acc = acc ++ wss
  | [], acc, _ => by simp
  | ws :: wss, acc, h => by
    obtain ⟨w, ns, rfl, h1, h2⟩ := h ws List.mem_cons_self
    rw [List.flatten_cons, List.foldl_append, List.foldl_cons, stepW_new (.inr (txt_not h1)), foldl_nums ns acc [w] h2, foldl_pieces wss _ fun m hm => h m (List.mem_cons_of_mem _ hm)]
    simp
def refs (H : IH) (k : Nat) : List PV := (List.range k).map fun i => PV.ref (H.length + 1 + i)
def cells (acc : List (List Str)) : IH := acc.map fun p => Cell.lst (p.map .str)
theorem pieces_wp {H : IH} {Q : PV → IH → Prop} {x : Str} {wss : List (List Str)} (hp : ∀ ws ∈ wss, Piece ws) (hs : Txt.split x " " = wss.flatten) (hx : x.length + 2 ≤ 16777216) (hl : wss.flatten.length < 10000)
    (q : Q (.lst (wss.map fun ws => .lst (ws.map .str))) H) : (f_forecast_pieces [.str x] H).wp Q := by
  unfold f_forecast_pieces
  walk_at "pf"
  rw [gSplit_str (by decide +kernel) hx, hs]
  walk_at "pf"
  refine wp_forL (fun j env h => ∃ (acc : List (List Str)) (x2 : Option PV), env = [some (.str x), some (.ref H.length), x2] ∧ acc = (wss.flatten.take j).foldl stepW [] ∧ h = H ++ .lst (refs H acc.length) :: cells acc ∧ acc.length ≤ j ∧ acc.flatten.length = j) _ 0 _ _ ?_ ?_ ?_ ?_
  · exact ⟨[], _, rfl, by simp, by simp [refs, cells], by simp, by simp⟩
  · intros; trivial
  · rintro j y env h hj ⟨acc, x2, rfl, hacc, rfl, hlen, hfl⟩
    rw [List.getElem?_map] at hj
    cases hw : wss.flatten[j]? with
    | none => rw [hw] at hj; cases hj
    | some w =>
      rw [hw] at hj
      cases hj
      have hjl : j < wss.flatten.length := (List.getElem?_eq_some_iff.mp hw).1
      simp only [Nat.zero_add] at hacc hlen hfl ⊢
      have hnext : (wss.flatten.take (j + 1)).foldl stepW [] = stepW acc w := by rw [take_snoc hw, List.foldl_append, ← hacc]; rfl
      have hkind : TxtW w ∨ ∃ i, NumW w i := by
        obtain ⟨ws, h1, h2⟩ := List.mem_flatten.mp (List.mem_of_getElem? hw)
        obtain ⟨w0, ns, rfl, h3, h4⟩ := hp ws h1
        rcases List.mem_cons.mp h2 with rfl | h5
        · exact .inl h3
        · exact .inr (h4 w h5)
      have snew : (acc = [] ∨ ¬ ∃ i, NumW w i) → ∃ (acc' : List (List Str)) (x2 : Option PV), [some (PV.str x), some (.ref H.length), some (PV.str w)] = [some (.str x), some (.ref H.length), x2] ∧ acc' = (wss.flatten.take (j + 1)).foldl stepW [] ∧ (H ++ .lst (refs H acc.length ++ [.ref (H.length + ((cells acc).length + 1))]) :: (cells acc ++ [Cell.lst [.str w]])) = H ++ .lst (refs H acc'.length) :: cells acc' ∧ acc'.length ≤ j + 1 ∧ acc'.flatten.length = j + 1 := fun hc =>
        ⟨acc ++ [[w]], _, rfl, by rw [hnext, stepW_new hc], by simp [refs, cells, List.range_succ]; omega, by simp; omega, by rw [List.flatten_append, List.length_append, hfl]; rfl⟩
      have hrl : (refs H acc.length).length < 16777216 := by simp [refs]; omega
      rcases nil_or_snoc acc with he | ⟨a, p, he⟩
      · have := snew (.inl he)
        have hne : (refs H acc.length).isEmpty = true := by simp [refs, he]
        walk_at "pf"
        rw [hne]
        walk_at "pf"
        exact this
      · have hne : (refs H acc.length).isEmpty = false := by simp [refs, he, List.range_succ]
        rcases hkind with hk | ⟨i, hi⟩
        · have := snew (.inr (txt_not hk))
          walk_at "pf"
          rw [hne]
          walk_at "pf"
          refine number_in_txt hk ?_
          walk_at "pf"
          exact this
        · have hrefs : refs H acc.length = refs H a.length ++ [.ref (H.length + 1 + a.length)] := by simp [refs, he, List.range_succ]
          have hat : (H ++ .lst (refs H acc.length) :: cells acc)[H.length + 1 + a.length]? = some (.lst (p.map .str)) := by
            rw [List.getElem?_append_right (by omega), show H.length + 1 + a.length - H.length = a.length + 1 by omega, he]
            simp [cells]
          have hn : H.length + 1 + a.length < (H ++ .lst (refs H acc.length) :: cells acc).length := (List.getElem?_eq_some_iff.mp hat).1
          have hpl : (p.map PV.str).length < 16777216 := by
            rw [he, List.flatten_append, List.length_append] at hfl
            simp at hfl ⊢
            omega
          have happ : gAppend (H ++ .lst (refs H acc.length) :: cells acc) (.ref (H.length + 1 + a.length)) [.str w] = some (.non, H ++ .lst (refs H acc.length) :: cells (a ++ [p ++ [w]])) := by
            rw [gAppend_ref hat, if_pos (by rw [sizeLine_eq]; exact hpl)]
            congr 2
            rw [List.set_append_right _ _ (by omega), show H.length + 1 + a.length - H.length = a.length + 1 by omega, he]
            simp [cells]
          have hix : gIx (H ++ .lst (refs H acc.length) :: cells acc) (.ref H.length) (.int (-1)) = some (.ref (H.length + 1 + a.length)) := by
            rw [gIx_A0, hrefs, atI_last']
          have hty : isTy "list" (H ++ .lst (refs H acc.length) :: cells acc) (.ref (H.length + 1 + a.length)) = true := isTy_ref hn
          walk_at "pf"
          rw [hne]
          walk_at "pf"
          refine number_in_num hi ?_
          walk_at "pf"
          simp only [gIx_A0, hrefs, atI_last']
          rw [← hrefs]
          walk_at "pf"
          simp only [happ]
          walk_at "pf"
          refine ⟨a ++ [p ++ [w]], _, rfl, by rw [hnext, he, stepW_add hi], by simp [he], by simp [he] at hlen ⊢; omega, ?_⟩
          rw [he] at hfl
          simp at hfl ⊢
          omega
  · rintro env h ⟨acc, x2, rfl, hacc, rfl, hlen, hfl⟩
    walk_at "pf"
    have hw : acc = wss := by
      rw [List.take_of_length_le (by rw [List.length_map]; omega), foldl_pieces wss [] hp] at hacc
      simpa using hacc
    subst hw
    refine fin_frz (frz_ref (ys := acc.map fun ws => PV.lst (ws.map .str)) (Nat.le_refl _) at_A0 ?_) q
    refine optAll_get _ _ (by simp [refs]) fun j x y h1 h2 => ?_
    simp only [refs, List.getElem?_map, Option.map_eq_some_iff] at h1 h2
    obtain ⟨k, hk, rfl⟩ := h1
    obtain ⟨ws, hws, rfl⟩ := h2
    have hjk : j = k := by
      have := List.getElem?_eq_some_iff.mp hk
      obtain ⟨h3, h4⟩ := this
      simpa using h4
    subst hjk
    refine frz_ref (xs := ws.map .str) (by omega) ?_ ?_
    · rw [List.getElem?_append_right (by omega), show H.length + 1 + j - H.length = j + 1 by omega]
      simp [cells, hws]
    · exact optAll_map ws fun z _ => frz_cl rfl
end L71

set_option Elab.async false
set_option linter.all false
set_option maxRecDepth 100000
set_option maxHeartbeats 4000000
namespace L71
open PySem PySem.Spec PyProof.Rows L2 PF TL
local macro_rules | `(tactic| walk_at "pf") => `(tactic| try simp (disch := first | omega | assumption | (simp only [List.length_cons, List.length_nil, List.length_map, List.length_append, List.length_set]; omega)) only [↓reduceIte, kfn0, kseq, kbind, kbindS, bnd_app, bndS_app, sqK_app, finK_app, finN_app, noK_app, noEx_ok, wp_eC, wp_tInTab, wp_eIxTab, ixTab_str, inTab_str, lookup_c, lookup_n, gIn_sign, gNotIn_sign, gIn_str2, gEq_nil, trP_A0, trP_L0, Option.isSome_some, Option.isSome_none, Bool.not_true, Bool.not_false, wp_eBin, wp_eCmp, wp_eAnd, wp_eOr, wp_eNot, wp_eIf, wp_eTup, wp_eLst, wp_eNew, wp_eSl, wp_eCall, wp_eIsi, wp_eNeg, wp_eFn0, wp_eFn, wp_eFnK0, wp_eFnK, wp_eLc, wp_eListNew, wp_eCatNew, wp_eMe, wp_eMe0, wp_tCmp, wp_tTru, wp_tAndF, wp_tOrF, wp_tNotF, wp_tYesF, wp_tChainF, wp_aNil, wp_aCons, wp_oNone, wp_oSome, wp_iSeq, wp_iEnumF, wp_iRng1F, wp_iRng2F, rngR1_int, rngR2_int, wp_sNext, wp_sIf, wp_sExpr, wp_sRet, wp_sRetN, wp_sBad, wp_sBrk, wp_sCont, wp_sSet, wp_sAug, wp_sSub, wp_sFor, wp_sAsg, wp_sPar, wp_sPar3, sizeK, 
  cMod_pos, cDiv_pos, cMul_r, cMul_l, cPow_of, fmod_pos, fdiv_pos, ixN0, ixN1, ixN2, ixN3, 
  ixN4, ixN5, at_set, gIx_set, gLen_set, setIx_set, gAppend_setK, gAppend_L0, gTuple_L0, gLen_L0, gIx_L0, lstOf_L0, itOf_L0, gAppend_A0, gTuple_A0, gLen_A0, gIx_A0, lstOf_A0, itOf_A0, rngOk_of, 
  Option.some.injEq, exists_eq_left', true_and, txt_beq, txt_eq, String.reduceEq, decide_true, decide_false, List.set_set, List.length_set, wp_ok, wp_bad, wp_ite, wpS_ite, wp_noEx, wpS_next, wpS_ret, 
  wpS_brk, wpS_cont, wpS_bad, gSl_lst, gSl_tup, gSl_scr, cutP_tail, fin_false, permL_0, permL_01, permL_10, trP_non, trP_bl, trP_int, trP_tup, trP_lst, trP_scr, trP_strK, intOf_int, blOf_bl, tyP_non, tyP_bl, tyP_int, tyP_str, tyP_tup, tyP_lst, tyP_ref, isB_NoneType_tuple, isB_NoneType_int, isB_NoneType_bool, isB_NoneType_str, isB_NoneType_list, isB_bool_tuple, isB_bool_int, isB_bool_bool, isB_bool_str, isB_bool_list, isB_int_tuple, isB_int_int, isB_int_bool, isB_int_str, isB_int_list, isB_str_tuple, isB_str_int, isB_str_bool, isB_str_str, isB_str_list, isB_tuple_tuple, isB_tuple_int, isB_tuple_bool, isB_tuple_str, isB_tuple_list, isB_list_tuple, isB_list_int, isB_list_bool, isB_list_str, isB_list_list, isTy_ref, isTy_lst, isTy_scr, isTy_str, Bool.true_and, Bool.and_true, Bool.or_false, Bool.false_or, Bool.and_false, Bool.false_and, Bool.or_true, Bool.true_or, beq_self_eq_true, lstOf_lst, seqOf_lst, seqOf_tup, seqOf_scr, seqOf_ref, itOf_tup, itOf_lst, itOf_scr, itOf_str, enumOf_lst, enumOf_scr, enumOf_ref, atI_gt, gtName, gtTup, gtCons, gtNil, wipeP, eVar_zero, eVar_succ, List.set_cons_zero, List.set_cons_succ, 
  List.map_cons, List.map_nil, List.length_cons, List.length_nil, List.cons_append, List.nil_append, List.append_nil, List.isEmpty_nil, List.isEmpty_cons, List.append_assoc, List.length_append, set_app, List.replicate, env0, ofOpt_some, ofOpt_none, Option.map_some, Option.map_none, 
  gAdd_int, gSub_int, gMul_int, gDiv_int, gMod_int, gPow_int, gAdd_strK, gAdd_tupK, gAdd_lstK, gLt_int, gLe_int, gGt_int, gGe_int, gEq_int, gEq_str, gEq_bl, gNe_int, gNe_str, gNe_bl, gIs_non, 
  gIs_int, gIs_str, gIs_tup, gIs_lst, gIs_bl, gIsNot_non, gIsNot_int, gIsNot_tup, gIx_tup, gIx_lst, gIx_scr, gLen_tup, gLen_lst, gLen_scr, gLen_strK, gAbs_int, gIntA_int, gIntA_bl, gIntA_str, 
  gStrA_intK, gStrA_str, gMaxA_int, gMinA_int, gTuple_tup, gTuple_lst, gTuple_L0, gList_tup, gList_lst, gList_scr, atI_zero, atI_one, atI_two, atI_three, atI_four, Nat.reduceAdd, Nat.reduceSub, 
  Nat.reduceLeDiff, Bool.false_eq_true, decide_eq_true_eq, beq_iff_eq, Nat.sub_self, Nat.zero_sub])
theorem least_wp {H : IH} {Q : PV → IH → Prop} (g : Grp) (l : Int) (q : Q (.int (nextL l g)) H) : (f_least_beginning [enc g, .int l] H).wp Q := by
  unfold f_least_beginning
  cases g <;> simp only [enc] <;> walk_at "pf" <;> exact fin_pure0 rfl q
theorem okAll_get : ∀ (gs : List Grp) (l : Int) (j : Nat) (g : Grp), okAll l gs → gs[j]? = some g → ok1 ((gs.take j).foldl nextL l) g
  | [], _, _, _, _, h => by simp at h
  | x :: gs, l, 0, g, h, hj => by cases hj; exact h.1
  | x :: gs, l, j + 1, g, h, hj => okAll_get gs (nextL l x) j g h.2 (by simpa using hj)
theorem ok1_in {l : Int} {g : Grp} (h : ok1 l g) : (∀ n ∈ nums g, InR n) ∧ ∀ a b c d, nums g = [a, b, c, d] → a < b := by
  cases g with
  | base c s => exact h.elim
  | from_ t c s => exact ⟨by simpa [nums] using h.2, by simp [nums]⟩
  | slow a b c s => obtain ⟨h1, h2, h3⟩ := h; exact ⟨by simpa [nums] using h3, by simp [nums]; omega⟩
  | at_ a b c s => obtain ⟨h1, h3⟩ := h; exact ⟨by simpa [nums] using h3, by simp [nums]; omega⟩
  | may a b c s => obtain ⟨h1, h3⟩ := h; exact ⟨by simpa [nums] using h3, by simp [nums]; omega⟩
theorem right_get {gs : List Grp} (h : Right gs) {j : Nat} {g : Grp} (hj : gs[j]? = some g) : (j = 0 ∧ ∃ c s, g = .base c s ∧ InR c ∧ InR s) ∨ (0 < j ∧ ok1 ((gs.take j).foldl nextL 0) g) := by
  obtain ⟨c, s, rest, rfl, hc, hs, ho, _⟩ := h
  cases j with
  | zero => cases hj; exact .inl ⟨rfl, c, s, rfl, hc, hs⟩
  | succ j => exact .inr ⟨by omega, okAll_get rest 0 j g ho (by simpa using hj)⟩
theorem right_in {gs : List Grp} (h : Right gs) {g : Grp} (hg : g ∈ gs) : (∀ n ∈ nums g, InR n) ∧ ∀ a b c d, nums g = [a, b, c, d] → a < b := by
  obtain ⟨j, hj⟩ := List.getElem?_of_mem hg
  rcases right_get h hj with ⟨_, c, s, rfl, hc, hs⟩ | ⟨_, h2⟩
  · exact ⟨by simpa [nums] using ⟨hc, hs⟩, by simp [nums]⟩
  · exact ok1_in h2
/-- words that spell the groups -/
def Spells : List Grp → List (List Str) → Prop
  | [], [] => True
  | g :: gs, ws :: wss => Spell g ws ∧ Spells gs wss
  | _, _ => False
theorem spells_len : ∀ {gs : List Grp} {wss : List (List Str)}, Spells gs wss → gs.length = wss.length
  | [], [], _ => rfl
  | [], _ :: _, h => h.elim
  | _ :: _, [], h => h.elim
  | g :: gs, ws :: wss, h => by simp [spells_len h.2]
theorem spells_get : ∀ {gs : List Grp} {wss : List (List Str)} {j : Nat} {g : Grp} {ws : List Str}, Spells gs wss → gs[j]? = some g → wss[j]? = some ws → Spell g ws
  | [], _, _, _, _, _, h, _ => by simp at h
  | _ :: _, [], _, _, _, h, _, _ => h.elim
  | g :: gs, ws :: wss, 0, _, _, h, h1, h2 => by cases h1; cases h2; exact h.1
  | g :: gs, ws :: wss, j + 1, _, _, h, h1, h2 => by
    rw [List.getElem?_cons_succ] at h1 h2
    exact spells_get h.2 h1 h2
theorem spell_piece {g : Grp} {ws : List Str} (h : Spell g ws) : Piece ws := by
  obtain ⟨ns, rfl, h2⟩ := h
  exact ⟨_, ns, rfl, word_txt g, fun n hn => spl_num h2 hn⟩
theorem spell_word {g : Grp} {ws : List Str} (h : Spell g ws) : ws.length ≤ 5 ∧ ∀ w ∈ ws, w.length ≤ 6 ∧ 32 ∉ tl w := by
  obtain ⟨ns, rfl, h2⟩ := h
  constructor
  · have := spl_len h2
    have h3 : (nums g).length ≤ 4 := by cases g <;> simp [nums]
    simp only [List.length_cons]
    omega
  · intro w hw
    rcases List.mem_cons.mp hw with rfl | hw
    · exact ⟨word_len g, word_free g⟩
    · obtain ⟨i, hi⟩ := spl_num h2 hw
      exact ⟨by have := num_len hi; omega, num_free hi⟩
theorem spells_all : ∀ {gs : List Grp} {wss : List (List Str)}, Spells gs wss → ∀ ws ∈ wss, ∃ g ∈ gs, Spell g ws
  | [], [], _, _, h => by cases h
  | [], _ :: _, h, _, _ => h.elim
  | _ :: _, [], h, _, _ => h.elim
  | g :: gs, ws :: wss, h, w, hw => by
    rcases List.mem_cons.mp hw with rfl | hw
    · exact ⟨g, List.mem_cons_self, h.1⟩
    · obtain ⟨g', h1, h2⟩ := spells_all h.2 w hw
      exact ⟨g', List.mem_cons_of_mem _ h1, h2⟩
theorem flat_len : ∀ {wss : List (List Str)}, (∀ ws ∈ wss, ws.length ≤ 5) → wss.flatten.length ≤ 5 * wss.length
  | [], _ => by simp
  | ws :: wss, h => by
    have h1 := h ws List.mem_cons_self
    have h2 := flat_len (wss := wss) fun w hw => h w (List.mem_cons_of_mem _ hw)
    rw [List.flatten_cons, List.length_append, List.length_cons]
    omega
theorem join_len (x : Str) : ∀ l : List Str, (Txt.join x l).length ≤ (l.map (·.length)).sum + l.length * x.length := by
  intro l
  rw [join_eq, len_tl, tl_join]
  induction l with
  | nil => simp [joinL]
  | cons a l ih =>
    cases l with
    | nil => simp [joinL, len_tl]
    | cons b l =>
      simp only [List.map_cons, joinL, List.length_append, List.sum_cons, List.length_cons] at ih ⊢
      rw [len_tl a, len_tl x] at *
      simp only [Nat.succ_mul, Nat.add_mul] at ih ⊢
      omega
end L71

set_option Elab.async false
set_option linter.all false
set_option maxRecDepth 100000
set_option maxHeartbeats 4000000
namespace L71
open PySem PySem.Spec PyProof.Rows L2 PF TL
local macro_rules | `(tactic| walk_at "pf") => `(tactic| try simp (disch := first | omega | assumption | (simp only [List.length_cons, List.length_nil, List.length_map, List.length_append, List.length_set]; omega)) only [↓reduceIte, kfn0, kseq, kbind, kbindS, bnd_app, bndS_app, sqK_app, finK_app, finN_app, noK_app, noEx_ok, wp_eC, wp_tInTab, wp_eIxTab, ixTab_str, inTab_str, lookup_c, lookup_n, gIn_sign, gNotIn_sign, gIn_str2, gEq_nil, trP_A0, trP_L0, Option.isSome_some, Option.isSome_none, Bool.not_true, Bool.not_false, wp_eBin, wp_eCmp, wp_eAnd, wp_eOr, wp_eNot, wp_eIf, wp_eTup, wp_eLst, wp_eNew, wp_eSl, wp_eCall, wp_eIsi, wp_eNeg, wp_eFn0, wp_eFn, wp_eFnK0, wp_eFnK, wp_eLc, wp_eListNew, wp_eCatNew, wp_eMe, wp_eMe0, wp_tCmp, wp_tTru, wp_tAndF, wp_tOrF, wp_tNotF, wp_tYesF, wp_tChainF, wp_aNil, wp_aCons, wp_oNone, wp_oSome, wp_iSeq, wp_iEnumF, wp_iRng1F, wp_iRng2F, rngR1_int, rngR2_int, wp_sNext, wp_sIf, wp_sExpr, wp_sRet, wp_sRetN, wp_sBad, wp_sBrk, wp_sCont, wp_sSet, wp_sAug, wp_sSub, wp_sFor, wp_sAsg, wp_sPar, wp_sPar3, sizeK, 
  cMod_pos, cDiv_pos, cMul_r, cMul_l, cPow_of, fmod_pos, fdiv_pos, ixN0, ixN1, ixN2, ixN3, 
  ixN4, ixN5, at_set, gIx_set, gLen_set, setIx_set, gAppend_setK, gAppend_L0, gTuple_L0, gLen_L0, gIx_L0, lstOf_L0, itOf_L0, gAppend_A0, gTuple_A0, gLen_A0, gIx_A0, lstOf_A0, itOf_A0, rngOk_of, 
  Option.some.injEq, exists_eq_left', true_and, txt_beq, txt_eq, String.reduceEq, decide_true, decide_false, List.set_set, List.length_set, wp_ok, wp_bad, wp_ite, wpS_ite, wp_noEx, wpS_next, wpS_ret, 
  wpS_brk, wpS_cont, wpS_bad, gSl_lst, gSl_tup, gSl_scr, cutP_tail, fin_false, permL_0, permL_01, permL_10, trP_non, trP_bl, trP_int, trP_tup, trP_lst, trP_scr, trP_strK, intOf_int, blOf_bl, tyP_non, tyP_bl, tyP_int, tyP_str, tyP_tup, tyP_lst, tyP_ref, isB_NoneType_tuple, isB_NoneType_int, isB_NoneType_bool, isB_NoneType_str, isB_NoneType_list, isB_bool_tuple, isB_bool_int, isB_bool_bool, isB_bool_str, isB_bool_list, isB_int_tuple, isB_int_int, isB_int_bool, isB_int_str, isB_int_list, isB_str_tuple, isB_str_int, isB_str_bool, isB_str_str, isB_str_list, isB_tuple_tuple, isB_tuple_int, isB_tuple_bool, isB_tuple_str, isB_tuple_list, isB_list_tuple, isB_list_int, isB_list_bool, isB_list_str, isB_list_list, isTy_ref, isTy_lst, isTy_scr, isTy_str, Bool.true_and, Bool.and_true, Bool.or_false, Bool.false_or, Bool.and_false, Bool.false_and, Bool.or_true, Bool.true_or, beq_self_eq_true, lstOf_lst, seqOf_lst, seqOf_tup, seqOf_scr, seqOf_ref, itOf_tup, itOf_lst, itOf_scr, itOf_str, enumOf_lst, enumOf_scr, enumOf_ref, atI_gt, gtName, gtTup, gtCons, gtNil, wipeP, eVar_zero, eVar_succ, List.set_cons_zero, List.set_cons_succ, 
  List.map_cons, List.map_nil, List.length_cons, List.length_nil, List.cons_append, List.nil_append, List.append_nil, List.isEmpty_nil, List.isEmpty_cons, List.append_assoc, List.length_append, set_app, List.replicate, env0, ofOpt_some, ofOpt_none, Option.map_some, Option.map_none, 
  gAdd_int, gSub_int, gMul_int, gDiv_int, gMod_int, gPow_int, gAdd_strK, gAdd_tupK, gAdd_lstK, gLt_int, gLe_int, gGt_int, gGe_int, gEq_int, gEq_str, gEq_bl, gNe_int, gNe_str, gNe_bl, gIs_non, 
  gIs_int, gIs_str, gIs_tup, gIs_lst, gIs_bl, gIsNot_non, gIsNot_int, gIsNot_tup, gIx_tup, gIx_lst, gIx_scr, gLen_tup, gLen_lst, gLen_scr, gLen_strK, gAbs_int, gIntA_int, gIntA_bl, gIntA_str, 
  gStrA_intK, gStrA_str, gMaxA_int, gMinA_int, gTuple_tup, gTuple_lst, gTuple_L0, gList_tup, gList_lst, gList_scr, atI_zero, atI_one, atI_two, atI_three, atI_four, Nat.reduceAdd, Nat.reduceSub, 
  Nat.reduceLeDiff, Bool.false_eq_true, decide_eq_true_eq, beq_iff_eq, Nat.sub_self, Nat.zero_sub])
theorem read_wp {H : IH} {Q : PV → IH → Prop} {gs : List Grp} {wss : List (List Str)} (hr : Right gs) (hs : Spells gs wss) (q : Q (.tup (gs.map enc)) H) : (f_read_forecast [.str (Txt.join " " wss.flatten)] H).wp Q := by
  obtain ⟨c0, s0, rest0, hgs, hc0, hs0, ho, h12⟩ := id hr
  have hlen := spells_len hs
  have hall := spells_all hs
  have hfl : wss.flatten.length ≤ 5 * wss.length := flat_len fun ws hw => by obtain ⟨g, _, h⟩ := hall ws hw; exact (spell_word h).1
  have hwd : ∀ w ∈ wss.flatten, w.length ≤ 6 ∧ 32 ∉ tl w := fun w hw => by
    obtain ⟨ws, h1, h2⟩ := List.mem_flatten.mp hw
    obtain ⟨g, _, h⟩ := hall ws h1
    exact (spell_word h).2 w h2
  have hxl : (Txt.join " " wss.flatten).length ≤ 1000 := by
    have h1 := join_len " " wss.flatten
    have h2 := sum_le 6 wss.flatten fun w hw => (hwd w hw).1
    have h3 : ((" " : Str)).length = 1 := by decide +kernel
    rw [h3] at h1
    omega
  have hne : wss.flatten ≠ [] := by
    cases wss with
    | nil => rw [hgs] at hlen; simp at hlen
    | cons ws wss =>
      obtain ⟨g, _, ns, h, _⟩ := hall ws List.mem_cons_self
      rw [h]; simp
  have hsp : Txt.split (Txt.join " " wss.flatten) " " = wss.flatten := by
    exact split_join (y := Str.ofString " ") (s := 32) (S := []) (by decide +kernel) (by decide +kernel) hne fun p hp => (hwd p hp).2
  unfold f_read_forecast
  walk_at "pf"
  refine pieces_wp (fun ws hw => by obtain ⟨g, _, h⟩ := hall ws hw; exact spell_piece h) hsp (by omega) (by omega) ?_
  walk_at "pf"
  refine wp_forL (fun j env h => ∃ (x3 x4 x5 : Option PV), env = [some (.str (Txt.join " " wss.flatten)), some (.ref H.length), some (.int ((gs.take j).foldl nextL 0)), x3, x4, x5] ∧ h = H ++ [.lst ((gs.take j).map enc)]) _ 0 _ _ ?_ ?_ ?_ ?_
  · exact ⟨_, _, _, rfl, by simp⟩
  · intros; trivial
  · rintro j y env h hj ⟨x3, x4, x5, rfl, rfl⟩
    simp only [List.getElem?_map, List.getElem?_zipIdx] at hj
    cases hw : wss[j]? with
    | none => rw [hw] at hj; cases hj
    | some ws =>
      rw [hw] at hj
      simp only [Option.map_some, Option.some.injEq, Nat.zero_add] at hj
      subst hj
      have hjl : j < gs.length := by rw [hlen]; exact (List.getElem?_eq_some_iff.mp hw).1
      have hg := List.getElem?_eq_getElem hjl
      have hsp := spells_get hs hg hw
      simp only [Nat.zero_add]
      rw [take_snoc hg]
      have hin := right_in hr (List.getElem_mem hjl)
      have hsz : (List.map enc (gs.take j)).length < 16777216 := by rw [List.length_map, List.length_take]; omega
      have fin : ∀ (x3 x4 x5 : Option PV), ∃ (y3 y4 y5 : Option PV), [some (PV.str (Txt.join " " wss.flatten)), some (.ref H.length), some (.int (nextL ((gs.take j).foldl nextL 0) gs[j])), x3, x4, x5] = [some (.str (Txt.join " " wss.flatten)), some (.ref H.length), some (.int ((gs.take j ++ [gs[j]]).foldl nextL 0)), y3, y4, y5] ∧ H ++ [Cell.lst (List.map enc (gs.take j) ++ [enc gs[j]])] = H ++ [.lst ((gs.take j ++ [gs[j]]).map enc)] := fun _ _ _ => ⟨_, _, _, by rw [List.foldl_append]; rfl, by rw [List.map_append]; rfl⟩
      walk_at "pf"
      refine group_wp hsp hin.2 ?_
      have hrg := right_get hr hg
      generalize gs[j] = g at *
      rcases hrg with ⟨rfl, c, s, rfl, hc, hs⟩ | ⟨hj0, hok⟩
      · simp only [enc]
        walk_at "pf"
        refine least_wp (.base c s) _ ?_
        walk_at "pf"
        exact fin _ _ _
      · have hj0' : ((j : Int) == 0) = false := by rw [beq_eq_false_iff_ne]; omega
        cases g with
        | base => exact hok.elim
        | from_ t c s =>
          simp only [enc]
          walk_at "pf"
          rw [if_neg (by omega), if_neg (by rw [hj0']; decide), if_neg (by have := hok.1; omega)]
          refine least_wp (.from_ t c s) _ ?_
          walk_at "pf"
          exact fin _ _ _
        | slow a b c s =>
          simp only [enc]
          walk_at "pf"
          rw [if_neg (by omega), if_neg (by rw [hj0']; decide), if_neg (by have := hok.2.1; omega)]
          refine least_wp (.slow a b c s) _ ?_
          walk_at "pf"
          exact fin _ _ _
        | at_ a b c s =>
          simp only [enc]
          walk_at "pf"
          rw [if_neg (by omega), if_neg (by rw [hj0']; decide)]
          refine least_wp (.at_ a b c s) _ ?_
          walk_at "pf"
          exact fin _ _ _
        | may a b c s =>
          simp only [enc]
          walk_at "pf"
          rw [if_neg (by omega), if_neg (by rw [hj0']; decide)]
          refine least_wp (.may a b c s) _ ?_
          walk_at "pf"
          exact fin _ _ _
  · rintro env h ⟨x3, x4, x5, rfl, rfl⟩
    walk_at "pf"
    rw [List.take_of_length_le (by simp; omega)]
    exact fin_pure (encs_cl _ gs) q
theorem written_wp {H : IH} {Q : PV → IH → Prop} {gs : List Grp} (hr : Right gs) (q : Q (.str (Txt.join " " (gs.flatMap parts))) H) : (f_written_forecast [.tup (gs.map enc)] H).wp Q := by
  unfold f_written_forecast
  walk_at "pf"
  have sp1 : ((" " : Str)).length = 1 := by decide +kernel
  have hgl : gs.length ≤ 12 := by obtain ⟨_, _, _, _, _, _, _, h⟩ := hr; exact h
  have hpl : ∀ g, (parts g).length ≤ 5 := fun g => by cases g <;> simp [parts, nums]
  refine wp_forL (fun j env h => ∃ (x2 x3 : Option PV), env = [some (.tup (gs.map enc)), some (.ref H.length), x2, x3] ∧ h = H ++ [.lst (((gs.take j).flatMap parts).map .str)]) _ 0 _ _ ?_ ?_ ?_ ?_
  · exact ⟨_, _, rfl, by simp⟩
  · intros; trivial
  · rintro j y env h hj ⟨x2, x3, rfl, rfl⟩
    rw [List.getElem?_map] at hj
    cases hg : gs[j]? with
    | none => rw [hg] at hj; cases hj
    | some g =>
      rw [hg] at hj
      cases hj
      simp only [Nat.zero_add]
      rw [take_snoc hg, List.flatMap_append, enc_eq]
      have hfl : ((gs.take j).flatMap parts).length ≤ 5 * gs.length := by
        have := flat_len (wss := (gs.take j).map parts) (fun ws hw => by obtain ⟨g, _, rfl⟩ := List.mem_map.mp hw; exact hpl g)
        rw [List.flatMap_def]
        rw [List.length_map, List.length_take] at this
        omega
      have hin := (right_in hr (List.mem_of_getElem? hg)).1
      have hn4 : (nums g).length ≤ 4 := by cases g <;> simp [nums]
      generalize (gs.take j).flatMap parts = P at *
      walk_at "pf"
      refine wp_forL (fun i env h => ∃ (x2 x3 : Option PV), env = [some (.tup (gs.map enc)), some (.ref H.length), x2, x3] ∧ h = H ++ [.lst ((P ++ word g :: ((nums g).take i).map num).map .str)]) _ 0 _ _ ?_ ?_ ?_ ?_
      · exact ⟨_, _, rfl, by simp⟩
      · intros; trivial
      · rintro i y env h hi ⟨x2, x3, rfl, rfl⟩
        rw [List.getElem?_map] at hi
        cases hn : (nums g)[i]? with
        | none => rw [hn] at hi; cases hi
        | some n =>
          rw [hn] at hi
          cases hi
          have hr := hin n (List.mem_of_getElem? hn)
          unfold InR at hr
          simp only [Nat.zero_add]
          rw [take_snoc hn]
          have hsz : (List.map PV.str (P ++ word g :: ((nums g).take i).map num)).length < 16777216 := by simp; omega
          generalize hL : P ++ word g :: ((nums g).take i).map num = L at *
          walk_at "pf"
          refine ⟨_, _, rfl, ?_⟩
          rw [← hL]
          simp [num]
      · rintro env h ⟨x2, x3, rfl, rfl⟩
        refine ⟨_, _, rfl, ?_⟩
        rw [List.take_of_length_le (by simp)]
        simp [parts]
  · rintro env h ⟨x2, x3, rfl, rfl⟩
    rw [List.take_of_length_le (by simp)]
    have hfl : (gs.flatMap parts).length ≤ 5 * gs.length := by
      have := flat_len (wss := gs.map parts) (fun ws hw => by obtain ⟨g, _, rfl⟩ := List.mem_map.mp hw; exact hpl g)
      rw [List.flatMap_def]
      rw [List.length_map] at this
      omega
    have hwl : ∀ w ∈ gs.flatMap parts, w.length ≤ 6 := fun w hw => by
      obtain ⟨g, h1, h2⟩ := List.mem_flatMap.mp hw
      unfold parts at h2
      rcases List.mem_cons.mp h2 with rfl | h3
      · exact word_len g
      · obtain ⟨n, h4, rfl⟩ := List.mem_map.mp h3
        have := num_len (num_w ((right_in hr h1).1 n h4))
        omega
    have hsum := sum_le 6 _ hwl
    have hj : gJoin (H ++ [Cell.lst (List.map PV.str (gs.flatMap parts))]) (.str " ") [.ref H.length] = some (.str (Txt.join " " (gs.flatMap parts)), H ++ [Cell.lst (List.map PV.str (gs.flatMap parts))]) :=
      gJoin_q (by rw [seqOf_ref, lstOf_A0]) (by rw [sp1]; omega)
    walk_at "pf"
    simp only [hj]
    walk_at "pf"
    exact fin_pure rfl q
theorem text_wp {H : IH} {Q : PV → IH → Prop} {gs : List Grp} (hr : Right gs) (q : Q (.str (Txt.join " " (gs.flatMap parts))) H) : (f_law_text [.tup (gs.map enc)] H).wp Q := by
  unfold f_law_text
  walk_at "pf"
  have sp1 : ((" " : Str)).length = 1 := by decide +kernel
  have hgl : gs.length ≤ 12 := by obtain ⟨_, _, _, _, _, _, _, h⟩ := hr; exact h
  have hpl : ∀ g, (parts g).length ≤ 5 := fun g => by cases g <;> simp [parts, nums]
  have hwl : ∀ g ∈ gs, ∀ w ∈ parts g, w.length ≤ 6 := fun g h1 w h2 => by
    unfold parts at h2
    rcases List.mem_cons.mp h2 with rfl | h3
    · exact word_len g
    · obtain ⟨n, h4, rfl⟩ := List.mem_map.mp h3
      have := num_len (num_w ((right_in hr h1).1 n h4))
      omega
  have hjl : ∀ g ∈ gs, (Txt.join " " (parts g)).length ≤ 35 := fun g h1 => by
    have h2 := join_len " " (parts g)
    have h3 := sum_le 6 _ (hwl g h1)
    have h4 := hpl g
    rw [sp1] at h2
    omega
  refine wp_forL (fun j env h => ∃ (x2 x3 : Option PV), env = [some (.tup (gs.map enc)), some (.ref H.length), x2, x3] ∧ h = H ++ [.lst (((gs.take j).map fun g => Txt.join " " (parts g)).map .str)]) _ 0 _ _ ?_ ?_ ?_ ?_
  · exact ⟨_, _, rfl, by simp⟩
  · intros; trivial
  · rintro j y env h hj ⟨x2, x3, rfl, rfl⟩
    rw [List.getElem?_map] at hj
    cases hg : gs[j]? with
    | none => rw [hg] at hj; cases hj
    | some g =>
      rw [hg] at hj
      cases hj
      simp only [Nat.zero_add]
      rw [take_snoc hg, List.map_append]
      have hgm := List.mem_of_getElem? hg
      have hin := (right_in hr hgm).1
      have hn4 : (nums g).length ≤ 4 := by cases g <;> simp [nums]
      have hPl : ((gs.take j).map fun g => Txt.join " " (parts g)).length < 16777216 := by rw [List.length_map, List.length_take]; omega
      generalize ((gs.take j).map fun g => Txt.join " " (parts g)) = P at *
      have he : enc g = .tup (.str (word g) :: (nums g).map .int) := enc_eq g
      walk_at "pf"
      rw [he]
      walk_at "pf"
      refine wp_lcL (fun i acc h1 => acc = ((parts g).take i).map .str ∧ h1 = H ++ [.lst (P.map .str)]) _ 0 _ _ ⟨by simp, rfl⟩ (fun _ _ _ _ => trivial) ?_ ?_
      · rintro i y acc h1 hi ⟨rfl, rfl⟩
        simp only [Nat.zero_add]
        cases i with
        | zero =>
          cases hi
          walk_at "pf"
          refine ⟨by rw [sizeLine_eq]; simp, by simp [parts], trivial⟩
        | succ i =>
          rw [List.getElem?_cons_succ, List.getElem?_map] at hi
          cases hn : (nums g)[i]? with
          | none => rw [hn] at hi; cases hi
          | some n =>
            rw [hn] at hi
            cases hi
            have hr := hin n (List.mem_of_getElem? hn)
            unfold InR at hr
            have hp : (parts g)[i + 1]? = some (num n) := by simp [parts, hn]
            rw [take_snoc hp]
            walk_at "pf"
            refine ⟨by rw [sizeLine_eq]; have := hpl g; simp; omega, by simp [num], trivial⟩
      · rintro acc h1 ⟨rfl, rfl⟩
        rw [List.take_of_length_le (by simp [parts])]
        have hj : gJoin (H ++ [Cell.lst (List.map PV.str P)]) (.str " ") [.lst ((parts g).map .str)] = some (.str (Txt.join " " (parts g)), H ++ [Cell.lst (List.map PV.str P)]) :=
          gJoin_q (by rw [seqOf_lst]) (by rw [sp1]; have h1 := hpl g; have h2 := sum_le 6 _ (hwl g hgm); omega)
        walk_at "pf"
        simp only [hj]
        walk_at "pf"
        exact ⟨_, _, rfl, by simp⟩
  · rintro env h ⟨x2, x3, rfl, rfl⟩
    rw [List.take_of_length_le (by simp)]
    have hsum := sum_le 35 (gs.map fun g => Txt.join " " (parts g)) (fun w hw => by obtain ⟨g, h1, rfl⟩ := List.mem_map.mp hw; exact hjl g h1)
    have hj : gJoin (H ++ [Cell.lst (List.map PV.str (gs.map fun g => Txt.join " " (parts g)))]) (.str " ") [.ref H.length] = some (.str (Txt.join " " (gs.map fun g => Txt.join " " (parts g))), H ++ [Cell.lst (List.map PV.str (gs.map fun g => Txt.join " " (parts g)))]) :=
      gJoin_q (by rw [seqOf_ref, lstOf_A0]) (by rw [sp1]; rw [List.length_map] at *; omega)
    walk_at "pf"
    simp only [hj]
    walk_at "pf"
    rw [join_flat " " parts gs (fun g _ => by simp [parts])]
    exact fin_pure rfl q
end L71

set_option Elab.async false
set_option linter.all false
set_option maxRecDepth 100000
set_option maxHeartbeats 4000000
namespace L71
open PySem PySem.Spec PyProof.Rows L2 PF TL
local macro_rules | `(tactic| walk_at "pf") => `(tactic| try simp (disch := first | omega | assumption | (simp only [List.length_cons, List.length_nil, List.length_map, List.length_append, List.length_set]; omega)) only [↓reduceIte, kfn0, kseq, kbind, kbindS, bnd_app, bndS_app, sqK_app, finK_app, finN_app, noK_app, noEx_ok, wp_eC, wp_tInTab, wp_eIxTab, ixTab_str, inTab_str, lookup_c, lookup_n, gIn_sign, gNotIn_sign, gIn_str2, gEq_nil, trP_A0, trP_L0, Option.isSome_some, Option.isSome_none, Bool.not_true, Bool.not_false, wp_eBin, wp_eCmp, wp_eAnd, wp_eOr, wp_eNot, wp_eIf, wp_eTup, wp_eLst, wp_eNew, wp_eSl, wp_eCall, wp_eIsi, wp_eNeg, wp_eFn0, wp_eFn, wp_eFnK0, wp_eFnK, wp_eLc, wp_eListNew, wp_eCatNew, wp_eMe, wp_eMe0, wp_tCmp, wp_tTru, wp_tAndF, wp_tOrF, wp_tNotF, wp_tYesF, wp_tChainF, wp_aNil, wp_aCons, wp_oNone, wp_oSome, wp_iSeq, wp_iEnumF, wp_iRng1F, wp_iRng2F, rngR1_int, rngR2_int, wp_sNext, wp_sIf, wp_sExpr, wp_sRet, wp_sRetN, wp_sBad, wp_sBrk, wp_sCont, wp_sSet, wp_sAug, wp_sSub, wp_sFor, wp_sAsg, wp_sPar, wp_sPar3, sizeK, 
  cMod_pos, cDiv_pos, cMul_r, cMul_l, cPow_of, fmod_pos, fdiv_pos, ixN0, ixN1, ixN2, ixN3, 
  ixN4, ixN5, at_set, gIx_set, gLen_set, setIx_set, gAppend_setK, gAppend_L0, gTuple_L0, gLen_L0, gIx_L0, lstOf_L0, itOf_L0, gAppend_A0, gTuple_A0, gLen_A0, gIx_A0, lstOf_A0, itOf_A0, rngOk_of, 
  Option.some.injEq, exists_eq_left', true_and, txt_beq, txt_eq, String.reduceEq, decide_true, decide_false, List.set_set, List.length_set, wp_ok, wp_bad, wp_ite, wpS_ite, wp_noEx, wpS_next, wpS_ret, 
  wpS_brk, wpS_cont, wpS_bad, gSl_lst, gSl_tup, gSl_scr, cutP_tail, fin_false, permL_0, permL_01, permL_10, trP_non, trP_bl, trP_int, trP_tup, trP_lst, trP_scr, trP_strK, intOf_int, blOf_bl, tyP_non, tyP_bl, tyP_int, tyP_str, tyP_tup, tyP_lst, tyP_ref, isB_NoneType_tuple, isB_NoneType_int, isB_NoneType_bool, isB_NoneType_str, isB_NoneType_list, isB_bool_tuple, isB_bool_int, isB_bool_bool, isB_bool_str, isB_bool_list, isB_int_tuple, isB_int_int, isB_int_bool, isB_int_str, isB_int_list, isB_str_tuple, isB_str_int, isB_str_bool, isB_str_str, isB_str_list, isB_tuple_tuple, isB_tuple_int, isB_tuple_bool, isB_tuple_str, isB_tuple_list, isB_list_tuple, isB_list_int, isB_list_bool, isB_list_str, isB_list_list, isTy_ref, isTy_lst, isTy_scr, isTy_str, Bool.true_and, Bool.and_true, Bool.or_false, Bool.false_or, Bool.and_false, Bool.false_and, Bool.or_true, Bool.true_or, beq_self_eq_true, lstOf_lst, seqOf_lst, seqOf_tup, seqOf_scr, seqOf_ref, itOf_tup, itOf_lst, itOf_scr, itOf_str, enumOf_lst, enumOf_scr, enumOf_ref, atI_gt, gtName, gtTup, gtCons, gtNil, wipeP, eVar_zero, eVar_succ, List.set_cons_zero, List.set_cons_succ, 
  List.map_cons, List.map_nil, List.length_cons, List.length_nil, List.cons_append, List.nil_append, List.append_nil, List.isEmpty_nil, List.isEmpty_cons, List.append_assoc, List.length_append, set_app, List.replicate, env0, ofOpt_some, ofOpt_none, Option.map_some, Option.map_none, 
  gAdd_int, gSub_int, gMul_int, gDiv_int, gMod_int, gPow_int, gAdd_strK, gAdd_tupK, gAdd_lstK, gLt_int, gLe_int, gGt_int, gGe_int, gEq_int, gEq_str, gEq_bl, gNe_int, gNe_str, gNe_bl, gIs_non, 
  gIs_int, gIs_str, gIs_tup, gIs_lst, gIs_bl, gIsNot_non, gIsNot_int, gIsNot_tup, gIx_tup, gIx_lst, gIx_scr, gLen_tup, gLen_lst, gLen_scr, gLen_strK, gAbs_int, gIntA_int, gIntA_bl, gIntA_str, 
  gStrA_intK, gStrA_str, gMaxA_int, gMinA_int, gTuple_tup, gTuple_lst, gTuple_L0, gList_tup, gList_lst, gList_scr, atI_zero, atI_one, atI_two, atI_three, atI_four, Nat.reduceAdd, Nat.reduceSub, 
  Nat.reduceLeDiff, Bool.false_eq_true, decide_eq_true_eq, beq_iff_eq, Nat.sub_self, Nat.zero_sub])
def rel (w w' : Str) : Prop := w' = w ∨ ∃ n, NumW w n ∧ NumW w' n
def RelS : List Str → List Str → Prop
  | [], [] => True
  | w :: l, w' :: m => rel w w' ∧ RelS l m
  | _, _ => False
theorem relS_snoc : ∀ {l m : List Str} {w w' : Str}, RelS l m → rel w w' → RelS (l ++ [w]) (m ++ [w'])
  | [], [], _, _, _, h => ⟨h, trivial⟩
  | [], _ :: _, _, _, h, _ => h.elim
  | _ :: _, [], _, _, h, _ => h.elim
  | a :: l, b :: m, _, _, h, h2 => ⟨h.1, relS_snoc h.2 h2⟩
theorem relS_len : ∀ {l m : List Str}, RelS l m → l.length = m.length
  | [], [], _ => rfl
  | [], _ :: _, h => h.elim
  | _ :: _, [], h => h.elim
  | a :: l, b :: m, h => by simp [relS_len h.2]
theorem relS_app : ∀ {a b m : List Str}, RelS (a ++ b) m → ∃ m1 m2, m = m1 ++ m2 ∧ RelS a m1 ∧ RelS b m2
  | [], b, m, h => ⟨[], m, rfl, trivial, h⟩
  | x :: a, b, [], h => h.elim
  | x :: a, b, y :: m, h => by
    obtain ⟨m1, m2, rfl, h1, h2⟩ := relS_app h.2
    exact ⟨y :: m1, m2, rfl, ⟨h.1, h1⟩, h2⟩
theorem relS_refl : ∀ l : List Str, RelS l l
  | [] => trivial
  | x :: l => ⟨.inl rfl, relS_refl l⟩
theorem rel_spl : ∀ {ns : List Int} {m : List Str}, (∀ n ∈ ns, InR n) → RelS (ns.map num) m → Spl m ns
  | [], [], _, _ => trivial
  | [], _ :: _, _, h => h.elim
  | _ :: _, [], _, h => h.elim
  | n :: ns, w :: m, hi, h => by
    refine ⟨?_, rel_spl (fun x hx => hi x (List.mem_cons_of_mem _ hx)) h.2⟩
    have hn := num_w (hi n List.mem_cons_self)
    rcases h.1 with rfl | ⟨k, h1, h2⟩
    · exact hn
    · have e := h1.2.2.2
      rw [hn.2.2.2] at e
      cases e
      exact h2
theorem rel_spells : ∀ {gs : List Grp} {m : List Str}, (∀ g ∈ gs, ∀ n ∈ nums g, InR n) → RelS (gs.flatMap parts) m → ∃ wss, wss.flatten = m ∧ Spells gs wss
  | [], [], _, _ => ⟨[], rfl, trivial⟩
  | [], _ :: _, _, h => h.elim
  | g :: gs, m, hi, h => by
    rw [List.flatMap_cons] at h
    obtain ⟨m1, m2, rfl, h1, h2⟩ := relS_app h
    obtain ⟨wss, rfl, h3⟩ := rel_spells (fun x hx => hi x (List.mem_cons_of_mem _ hx)) h2
    refine ⟨m1 :: wss, rfl, ?_, h3⟩
    cases m1 with
    | nil => exact h1.elim
    | cons w m1 =>
      refine ⟨m1, ?_, rel_spl (hi g List.mem_cons_self) h1.2⟩
      rcases h1.1 with rfl | ⟨n, h4, _⟩
      · rfl
      · exact absurd ⟨n, h4⟩ (txt_not (word_txt g))
theorem val_zeros (l : List Nat) : ∀ d : Nat, NumText.digitsVal (List.replicate d 48 ++ l) = NumText.digitsVal l := by
  intro d
  unfold NumText.digitsVal
  induction d with
  | zero => rfl
  | succ d ih => rw [List.replicate_succ, List.cons_append, List.foldl_cons]; exact ih
theorem tl_rep (d : Int) : tl (strRep "0" d) = List.replicate d.toNat 48 := by
  have h0 : (("0" : Str)).cps = #[48] := by decide +kernel
  unfold strRep tl
  rw [h0]
  have : ∀ (k : Nat) (acc : Array Nat), ((List.replicate k #[48]).foldl (· ++ ·) acc).toList = acc.toList ++ List.replicate k 48 := by
    intro k
    induction k with
    | zero => simp
    | succ k ih => intro acc; rw [List.replicate_succ, List.foldl_cons, ih, List.replicate_succ]; simp
  rw [this]
  simp
theorem zeros_num {w : Str} {n d : Int} (h : NumW w n) (h0 : 0 ≤ d) (hd : d < 5 - w.length) : NumW (strRep "0" d ++ w) n := by
  have e : tl (strRep "0" d ++ w) = List.replicate d.toNat 48 ++ tl w := by rw [tl_append, tl_rep]
  obtain ⟨h1, h2, h3, h4⟩ := h
  have hl : (strRep "0" d ++ w).length = d.toNat + w.length := by rw [len_tl, e, List.length_append, List.length_replicate, ← len_tl]
  have hne : tl w ≠ [] := fun hh => by rw [len_tl, hh] at h1; simp at h1
  have hd : NumText.AllDigits (tl (strRep "0" d ++ w)) := by
    rw [e]
    intro c hc
    rcases List.mem_append.mp hc with hc | hc
    · rw [(List.mem_replicate.mp hc).2]; omega
    · exact h3 c hc
  have v1 := intText_digits (x := w) h3 hne (by omega)
  have v2 := intText_digits (x := strRep "0" d ++ w) hd (by show tl _ ≠ []; rw [e]; simp [hne]) (by omega)
  rw [show (strRep "0" d ++ w).cps.toList = List.replicate d.toNat 48 ++ tl w from e, val_zeros] at v2
  rw [show w.cps.toList = tl w from rfl, h4] at v1
  cases v1
  exact ⟨by omega, by omega, hd, v2⟩
theorem spells_parts : ∀ {gs : List Grp}, (∀ g ∈ gs, ∀ n ∈ nums g, InR n) → Spells gs (gs.map parts)
  | [], _ => trivial
  | g :: gs, h => ⟨⟨_, rfl, spl_nums _ (h g List.mem_cons_self)⟩, spells_parts fun x hx => h x (List.mem_cons_of_mem _ hx)⟩
theorem read0 {H : IH} {Q : PV → IH → Prop} {gs : List Grp} (hr : Right gs) (q : Q (.tup (gs.map enc)) H) : (f_read_forecast [.str (Txt.join " " (gs.flatMap parts))] H).wp Q := by
  rw [List.flatMap_def]
  exact read_wp hr (spells_parts fun g hg => (right_in hr hg).1) q
theorem smp_enc (g : Grp) : smp 3 (enc g) = true := by cases g <;> rfl
theorem smp_groups {gs : List Grp} (h : Right gs) : smp 4 (.tup (gs.map enc)) = true := by
  obtain ⟨_, _, _, _, _, _, _, h12⟩ := h
  simp only [smp, Bool.and_eq_true, decide_eq_true_eq, List.all_eq_true, List.length_map]
  refine ⟨by omega, ?_⟩
  intro x hx
  obtain ⟨g, _, rfl⟩ := List.mem_map.mp hx
  exact smp_enc g
theorem flat_words {gs : List Grp} (hr : Right gs) : (gs.flatMap parts).length ≤ 60 ∧ (∀ w ∈ gs.flatMap parts, w.length ≤ 6 ∧ 32 ∉ tl w ∧ (TxtW w ∨ ∃ i, NumW w i)) ∧ (Txt.join " " (gs.flatMap parts)).length ≤ 1000 ∧ Txt.split (Txt.join " " (gs.flatMap parts)) " " = gs.flatMap parts := by
  have hin : ∀ g ∈ gs, ∀ n ∈ nums g, InR n := fun g hg => (right_in hr hg).1
  have hgl : gs.length ≤ 12 := by obtain ⟨_, _, _, _, _, _, _, h⟩ := hr; exact h
  have hpl : ∀ g, (parts g).length ≤ 5 := fun g => by cases g <;> simp [parts, nums]
  have h1 : (gs.flatMap parts).length ≤ 60 := by
    have := flat_len (wss := gs.map parts) (fun ws hw => by obtain ⟨g, _, rfl⟩ := List.mem_map.mp hw; exact hpl g)
    rw [List.flatMap_def]
    rw [List.length_map] at this
    omega
  have h2 : ∀ w ∈ gs.flatMap parts, w.length ≤ 6 ∧ 32 ∉ tl w ∧ (TxtW w ∨ ∃ i, NumW w i) := fun w hw => by
    obtain ⟨g, h1, h2⟩ := List.mem_flatMap.mp hw
    unfold parts at h2
    rcases List.mem_cons.mp h2 with rfl | h3
    · exact ⟨word_len g, word_free g, .inl (word_txt g)⟩
    · obtain ⟨n, h4, rfl⟩ := List.mem_map.mp h3
      have hn := num_w (hin g h1 n h4)
      have := num_len hn
      exact ⟨by omega, num_free hn, .inr ⟨n, hn⟩⟩
  have h3 : (Txt.join " " (gs.flatMap parts)).length ≤ 1000 := by
    have a1 := join_len " " (gs.flatMap parts)
    have a2 := sum_le 6 (gs.flatMap parts) fun w hw => (h2 w hw).1
    have a3 : ((" " : Str)).length = 1 := by decide +kernel
    rw [a3] at a1
    omega
  have h4 : gs.flatMap parts ≠ [] := by
    obtain ⟨c, s, rest, rfl, _⟩ := hr
    simp [parts]
  exact ⟨h1, h2, h3, split_join (y := Str.ofString " ") (s := 32) (S := []) (by decide +kernel) (by decide +kernel) h4 fun p hp => (h2 p hp).2.1⟩
theorem txt_ix {w : Str} {c : Nat} {ih : IH} (h : (tl w)[0]? = some c) (hl : w.length ≤ 16777216) : gIx ih (.str w) (.int 0) = some (.str ⟨#[c]⟩) := by
  rw [gIx_str, if_pos (by rw [sizeLine_eq]; exact hl)]
  have : atI w.cps.toList 0 = some c := by
    rw [atI_nn _ _ (by omega)]
    exact h
  rw [this]
  rfl
theorem num_head {w : Str} {n : Int} (h : NumW w n) : ∃ c, (tl w)[0]? = some c ∧ 48 ≤ c ∧ c ≤ 57 := by
  have h1 := h.1
  rw [len_tl] at h1
  exact ⟨(tl w)[0], List.getElem?_eq_getElem h1, h.2.2.1 _ (List.getElem_mem h1)⟩
theorem law_true (ns : List Int) (hl : ns.length ≤ 63) : ∃ h, f_law [.scr (ns.map .int)] [] = .ok (.bl true) h := by
  refine (fun hw : (f_law [.scr (ns.map .int)] []).wp (fun v _ => v = .bl true) => ?_) ?_
  · obtain ⟨v, i, e, rfl⟩ := hw.get
    exact ⟨i, e⟩
  unfold f_law
  walk_at "pf"
  unfold f_law_pool
  walk_at "pf"
  have hpool : PoolOk (PV.int 0 :: PV.int 7 :: PV.int 3 :: List.map PV.int ns) := ⟨0, 7, 3, ns, rfl, by omega, by omega, by omega, by omega, hl⟩
  refine wp_forL (fun i env h => ∃ (ps : List PV) (G : IH) (x2 x3 x4 x5 x6 x7 : Option PV), env = [some (.scr (ns.map .int)), some (.ref 0), x2, x3, x4, x5, x6, x7] ∧ h = G.set 0 (.lst ps) ∧ 0 < G.length ∧ PoolOk ps) _ 0 _ _ ?_ ?_ ?_ ?_
  · exact ⟨_, [.lst []], _, _, _, _, _, _, rfl, rfl, by simp, hpool⟩
  · intros; trivial
  · rintro j y env h hj ⟨ps, G, x2, x3, x4, x5, x6, x7, rfl, rfl, hG, hps⟩
    walk_at "pf"
    refine pick_wp hG hps (by simp) (by simp) (by simp [clP]) fun p ps1 hp ok1 => ?_
    obtain ⟨last, rfl, hl0, hl1⟩ : ∃ c, p = .int c ∧ 0 ≤ c ∧ c ≤ 9990 := by
      simp only [List.mem_cons, List.not_mem_nil, or_false] at hp
      rcases hp with rfl | rfl | rfl <;> exact ⟨_, rfl, by omega, by omega⟩
    walk_at "pf"
    refine groups_wp hG ok1 (by omega) (by omega) hl0 hl1 fun gs ps2 hr hlen ok2 => ?_
    walk_at "pf"
    refine text_wp hr ?_
    walk_at "pf"
    refine written_wp hr ?_
    walk_at "pf"
    refine same_refl 4 _ rfl ?_
    walk_at "pf"
    refine read0 hr ?_
    walk_at "pf"
    refine same_refl 4 _ (smp_groups hr) ?_
    walk_at "pf"
    obtain ⟨hf1, hf2, hf3, hf4⟩ := flat_words hr
    rw [gSplit_str (by decide +kernel) (by omega), hf4]
    walk_at "pf"
    have z1 : ((" " : Str)).length = 1 := by decide +kernel
    have z2 : (("0" : Str)).length = 1 := by decide +kernel
    refine wp_forL (fun i env h => ∃ (ps : List PV) (L : List Str) (x6 : Option PV), env = [some (.scr (ns.map .int)), some (.ref 0), some y, some (.tup (gs.map enc)), some (.str (Txt.join " " (gs.flatMap parts))), some (.ref G.length), x6, x7] ∧ h = (G ++ [Cell.lst (L.map .str)]).set 0 (Cell.lst ps) ∧ PoolOk ps ∧ RelS ((gs.flatMap parts).take i) L) _ 0 _ _ ?_ ?_ ?_ ?_
    · exact ⟨_, [], _, rfl, rfl, ok2, trivial⟩
    · intros; trivial
    · rintro i y env h hi ⟨ps, L, x6, rfl, rfl, ok3, hrel⟩
      rw [List.getElem?_map] at hi
      cases hw : (gs.flatMap parts)[i]? with
      | none => rw [hw] at hi; cases hi
      | some w =>
        rw [hw] at hi
        cases hi
        simp only [Nat.zero_add] at hrel ⊢
        rw [take_snoc hw]
        have hwm := hf2 w (List.mem_of_getElem? hw)
        have hil : i < (gs.flatMap parts).length := (List.getElem?_eq_some_iff.mp hw).1
        have hLl : L.length < 16777216 := by have := relS_len hrel; rw [List.length_take] at this; omega
        rcases hwm.2.2 with ⟨_, c, hc1, hc2⟩ | ⟨n, hn⟩
        · have hix := fun ih => txt_ix (ih := ih) hc1 (by have := hwm.1; omega)
          have hd : decide (c ∈ (Str.ofString "0123456789").cps.toList) = false := decide_eq_false fun h => hc2 (digits_mem.mp h)
          walk_at "pf"
          simp only [hix]
          walk_at "pf"
          rw [if_neg (of_decide_eq_false hd)]
          walk_at "pf"
          refine ⟨_, L ++ [w], _, rfl, by simp, ok3, relS_snoc hrel (.inl rfl)⟩
        · obtain ⟨c, hc1, hc2⟩ := num_head hn
          have hix := fun ih => txt_ix (ih := ih) hc1 (by have := hwm.1; omega)
          have hd : decide (c ∈ (Str.ofString "0123456789").cps.toList) = true := decide_eq_true (digits_mem.mpr hc2)
          have hn4 := num_len hn
          walk_at "pf"
          simp only [hix]
          walk_at "pf"
          rw [if_pos (of_decide_eq_true hd)]
          walk_at "pf"
          refine draw_wp (lt_app hG) ok3 (by omega) (by omega) fun d ps4 hd0 hd1 ok4 => ?_
          have hzl : (strRep "0" d).length ≤ 4 := by rw [strRep_len, z2]; omega
          have hm : ∀ ih, gMul ih (.str "0") (.int d) = some (.str (strRep "0" d)) := fun ih => by
            rw [gMul_str, if_pos]
            rw [z2, sizeLine_eq]
            omega
          walk_at "pf"
          simp only [hm]
          walk_at "pf"
          refine ⟨_, L ++ [strRep "0" d ++ w], _, rfl, by simp, ok4, relS_snoc hrel (.inr ⟨n, hn, zeros_num hn hd0 hd1⟩)⟩
    · rintro env h ⟨ps, L, x6, rfl, rfl, ok3, hrel⟩
      rw [List.take_of_length_le (by simp)] at hrel
      obtain ⟨wss, rfl, hsp⟩ := rel_spells (fun g hg => (right_in hr hg).1) hrel
      have hj : ∀ ps, gJoin ((G ++ [Cell.lst (List.map PV.str wss.flatten)]).set 0 (.lst ps)) (.str " ") [.ref G.length] = some (.str (Txt.join " " wss.flatten), (G ++ [Cell.lst (List.map PV.str wss.flatten)]).set 0 (.lst ps)) := fun ps =>
        gJoin_q (by rw [seqOf_ref, lstOf_L0 hG]) (by
          have a1 := sum_le 6 wss.flatten fun w hw => by
            obtain ⟨ws, h1, h2⟩ := List.mem_flatten.mp hw
            obtain ⟨g, _, h⟩ := spells_all hsp ws h1
            exact ((spell_word h).2 w h2).1
          have a2 := relS_len hrel
          rw [z1]
          omega)
      walk_at "pf"
      simp only [hj]
      walk_at "pf"
      refine read_wp hr hsp ?_
      walk_at "pf"
      refine same_refl 4 _ (smp_groups hr) ?_
      walk_at "pf"
      refine written_wp hr ?_
      walk_at "pf"
      refine same_refl 4 _ rfl ?_
      walk_at "pf"
      refine written_wp hr ?_
      walk_at "pf"
      refine same_refl 4 _ rfl ?_
      walk_at "pf"
      exact ⟨_, _, _, _, _, _, _, _, rfl, rfl, by simp, ok3⟩
  · rintro env h ⟨ps, G, x2, x3, x4, x5, x6, x7, rfl, rfl, hG, hps⟩
    walk_at "pf"
    have hr : Right [.base 0 9999] := ⟨0, 9999, [], rfl, ⟨by omega, by omega⟩, ⟨by omega, by omega⟩, trivial, by simp⟩
    refine written_wp (gs := [.base 0 9999]) hr ?_
    have e : Txt.join " " ([Grp.base 0 9999].flatMap parts) = "BASE 0 9999" := by decide +kernel
    rw [e]
    walk_at "pf"
    refine same_refl 4 _ rfl ?_
    walk_at "pf"
    exact fin_pure (ih := []) rfl rfl
end L71

set_option Elab.async false
set_option linter.all false
set_option maxRecDepth 100000
set_option maxHeartbeats 4000000
namespace L71
open PySem PySem.Spec PyProof.Rows L2 PF
/-! ### what the top has written; the law's own head -/
theorem all_mk {l : PySem.W.OpenLaw} {w : World} {K : PySem.W.Frag} {h : Heap} {mg : Str → Option Value} {fa : Addr} (X : K.In h) (G : h.Ns mainGlobals mg) (hfa : mg "law" = some (.ref fa))
    {f0 : Addr} {od0 an0 : Option Addr} {sl0 : Array (Option Value)} {oc0 kV0 dc0 pm0 cd0 ct0 : Value}
    (a0 : PySem.W.nsIn K mainGlobals "number_in" = some (some (.ref f0))) (l0 : K.lookup f0 = some ⟨oc0, od0, .func (PySem.W.fnOf "number_in" "number_in" (defArgs s_number_in) (defBody s_number_in) (defScope s_number_in) .none kV0 dc0 pm0 an0 cd0 ct0), sl0⟩) (c0 : PySem.W.codeIn K cd0 "number_in" = true) (k0 : PySem.W.keepIn K (.ref f0) = true)
    {f1 : Addr} {od1 an1 : Option Addr} {sl1 : Array (Option Value)} {oc1 kV1 dc1 pm1 cd1 ct1 : Value}
    (a1 : PySem.W.nsIn K mainGlobals "forecast_pieces" = some (some (.ref f1))) (l1 : K.lookup f1 = some ⟨oc1, od1, .func (PySem.W.fnOf "forecast_pieces" "forecast_pieces" (defArgs s_forecast_pieces) (defBody s_forecast_pieces) (defScope s_forecast_pieces) .none kV1 dc1 pm1 an1 cd1 ct1), sl1⟩) (c1 : PySem.W.codeIn K cd1 "forecast_pieces" = true) (k1 : PySem.W.keepIn K (.ref f1) = true)
    {f2 : Addr} {od2 an2 : Option Addr} {sl2 : Array (Option Value)} {oc2 kV2 dc2 pm2 cd2 ct2 : Value}
    (a2 : PySem.W.nsIn K mainGlobals "forecast_group" = some (some (.ref f2))) (l2 : K.lookup f2 = some ⟨oc2, od2, .func (PySem.W.fnOf "forecast_group" "forecast_group" (defArgs s_forecast_group) (defBody s_forecast_group) (defScope s_forecast_group) .none kV2 dc2 pm2 an2 cd2 ct2), sl2⟩) (c2 : PySem.W.codeIn K cd2 "forecast_group" = true) (k2 : PySem.W.keepIn K (.ref f2) = true)
    {f3 : Addr} {od3 an3 : Option Addr} {sl3 : Array (Option Value)} {oc3 kV3 dc3 pm3 cd3 ct3 : Value}
    (a3 : PySem.W.nsIn K mainGlobals "least_beginning" = some (some (.ref f3))) (l3 : K.lookup f3 = some ⟨oc3, od3, .func (PySem.W.fnOf "least_beginning" "least_beginning" (defArgs s_least_beginning) (defBody s_least_beginning) (defScope s_least_beginning) .none kV3 dc3 pm3 an3 cd3 ct3), sl3⟩) (c3 : PySem.W.codeIn K cd3 "least_beginning" = true) (k3 : PySem.W.keepIn K (.ref f3) = true)
    {f4 : Addr} {od4 an4 : Option Addr} {sl4 : Array (Option Value)} {oc4 kV4 dc4 pm4 cd4 ct4 : Value}
    (a4 : PySem.W.nsIn K mainGlobals "read_forecast" = some (some (.ref f4))) (l4 : K.lookup f4 = some ⟨oc4, od4, .func (PySem.W.fnOf "read_forecast" "read_forecast" (defArgs s_read_forecast) (defBody s_read_forecast) (defScope s_read_forecast) .none kV4 dc4 pm4 an4 cd4 ct4), sl4⟩) (c4 : PySem.W.codeIn K cd4 "read_forecast" = true) (k4 : PySem.W.keepIn K (.ref f4) = true)
    {f5 : Addr} {od5 an5 : Option Addr} {sl5 : Array (Option Value)} {oc5 kV5 dc5 pm5 cd5 ct5 : Value}
    (a5 : PySem.W.nsIn K mainGlobals "written_forecast" = some (some (.ref f5))) (l5 : K.lookup f5 = some ⟨oc5, od5, .func (PySem.W.fnOf "written_forecast" "written_forecast" (defArgs s_written_forecast) (defBody s_written_forecast) (defScope s_written_forecast) .none kV5 dc5 pm5 an5 cd5 ct5), sl5⟩) (c5 : PySem.W.codeIn K cd5 "written_forecast" = true) (k5 : PySem.W.keepIn K (.ref f5) = true)
    {f6 : Addr} {od6 an6 : Option Addr} {sl6 : Array (Option Value)} {oc6 kV6 dc6 pm6 cd6 ct6 : Value}
    (a6 : PySem.W.nsIn K mainGlobals "_law_pool" = some (some (.ref f6))) (l6 : K.lookup f6 = some ⟨oc6, od6, .func (PySem.W.fnOf "_law_pool" "_law_pool" (defArgs s_law_pool) (defBody s_law_pool) (defScope s_law_pool) .none kV6 dc6 pm6 an6 cd6 ct6), sl6⟩) (c6 : PySem.W.codeIn K cd6 "_law_pool" = true) (k6 : PySem.W.keepIn K (.ref f6) = true)
    {f7 : Addr} {od7 an7 : Option Addr} {sl7 : Array (Option Value)} {oc7 kV7 dc7 pm7 cd7 ct7 : Value}
    (a7 : PySem.W.nsIn K mainGlobals "_law_draw" = some (some (.ref f7))) (l7 : K.lookup f7 = some ⟨oc7, od7, .func (PySem.W.fnOf "_law_draw" "_law_draw" (defArgs s_law_draw) (defBody s_law_draw) (defScope s_law_draw) .none kV7 dc7 pm7 an7 cd7 ct7), sl7⟩) (c7 : PySem.W.codeIn K cd7 "_law_draw" = true) (k7 : PySem.W.keepIn K (.ref f7) = true)
    {f8 : Addr} {od8 an8 : Option Addr} {sl8 : Array (Option Value)} {oc8 kV8 dc8 pm8 cd8 ct8 : Value}
    (a8 : PySem.W.nsIn K mainGlobals "_law_pick" = some (some (.ref f8))) (l8 : K.lookup f8 = some ⟨oc8, od8, .func (PySem.W.fnOf "_law_pick" "_law_pick" (defArgs s_law_pick) (defBody s_law_pick) (defScope s_law_pick) .none kV8 dc8 pm8 an8 cd8 ct8), sl8⟩) (c8 : PySem.W.codeIn K cd8 "_law_pick" = true) (k8 : PySem.W.keepIn K (.ref f8) = true)
    {f9 : Addr} {od9 an9 : Option Addr} {sl9 : Array (Option Value)} {oc9 kV9 dc9 pm9 cd9 ct9 : Value}
    (a9 : PySem.W.nsIn K mainGlobals "_law_same" = some (some (.ref f9))) (l9 : K.lookup f9 = some ⟨oc9, od9, .func (PySem.W.fnOf "_law_same" "_law_same" (defArgs s_law_same) (defBody s_law_same) (defScope s_law_same) .none kV9 dc9 pm9 an9 cd9 ct9), sl9⟩) (c9 : PySem.W.codeIn K cd9 "_law_same" = true) (k9 : PySem.W.keepIn K (.ref f9) = true)
    {f10 : Addr} {od10 an10 : Option Addr} {sl10 : Array (Option Value)} {oc10 kV10 dc10 pm10 cd10 ct10 : Value}
    (a10 : PySem.W.nsIn K mainGlobals "_law_weather" = some (some (.ref f10))) (l10 : K.lookup f10 = some ⟨oc10, od10, .func (PySem.W.fnOf "_law_weather" "_law_weather" (defArgs s_law_weather) (defBody s_law_weather) (defScope s_law_weather) .none kV10 dc10 pm10 an10 cd10 ct10), sl10⟩) (c10 : PySem.W.codeIn K cd10 "_law_weather" = true) (k10 : PySem.W.keepIn K (.ref f10) = true)
    {f11 : Addr} {od11 an11 : Option Addr} {sl11 : Array (Option Value)} {oc11 kV11 dc11 pm11 cd11 ct11 : Value}
    (a11 : PySem.W.nsIn K mainGlobals "_law_groups" = some (some (.ref f11))) (l11 : K.lookup f11 = some ⟨oc11, od11, .func (PySem.W.fnOf "_law_groups" "_law_groups" (defArgs s_law_groups) (defBody s_law_groups) (defScope s_law_groups) .none kV11 dc11 pm11 an11 cd11 ct11), sl11⟩) (c11 : PySem.W.codeIn K cd11 "_law_groups" = true) (k11 : PySem.W.keepIn K (.ref f11) = true)
    {f12 : Addr} {od12 an12 : Option Addr} {sl12 : Array (Option Value)} {oc12 kV12 dc12 pm12 cd12 ct12 : Value}
    (a12 : PySem.W.nsIn K mainGlobals "_law_text" = some (some (.ref f12))) (l12 : K.lookup f12 = some ⟨oc12, od12, .func (PySem.W.fnOf "_law_text" "_law_text" (defArgs s_law_text) (defBody s_law_text) (defScope s_law_text) .none kV12 dc12 pm12 an12 cd12 ct12), sl12⟩) (c12 : PySem.W.codeIn K cd12 "_law_text" = true) (k12 : PySem.W.keepIn K (.ref f12) = true)
    {f13 : Addr} {od13 an13 : Option Addr} {sl13 : Array (Option Value)} {oc13 kV13 dc13 pm13 cd13 ct13 : Value}
    (a13 : PySem.W.nsIn K mainGlobals "law" = some (some (.ref f13))) (l13 : K.lookup f13 = some ⟨oc13, od13, .func (PySem.W.fnOf "law" "law" (defArgs s_law) (defBody s_law) (defScope s_law) .none kV13 dc13 pm13 an13 cd13 ct13), sl13⟩) (c13 : PySem.W.codeIn K cd13 "law" = true) (k13 : PySem.W.keepIn K (.ref f13) = true)
    (z_abs : PySem.W.nsIn K mainGlobals "abs" = some none)
    (z_bool : PySem.W.nsIn K mainGlobals "bool" = some none)
    (z_enumerate : PySem.W.nsIn K mainGlobals "enumerate" = some none)
    (z_int : PySem.W.nsIn K mainGlobals "int" = some none)
    (z_isinstance : PySem.W.nsIn K mainGlobals "isinstance" = some none)
    (z_len : PySem.W.nsIn K mainGlobals "len" = some none)
    (z_list : PySem.W.nsIn K mainGlobals "list" = some none)
    (z_max : PySem.W.nsIn K mainGlobals "max" = some none)
    (z_range : PySem.W.nsIn K mainGlobals "range" = some none)
    (z_str : PySem.W.nsIn K mainGlobals "str" = some none)
    (z_tuple : PySem.W.nsIn K mainGlobals "tuple" = some none)
    {d_GROUP_SIZES : Addr} {es_GROUP_SIZES : Array DictEntry} {n_GROUP_SIZES : Nat} (m_GROUP_SIZES : PySem.W.nsIn K mainGlobals "GROUP_SIZES" = some (some (.ref d_GROUP_SIZES))) (lk_GROUP_SIZES : K.lookup d_GROUP_SIZES = some ⟨.type "dict", none, .dict es_GROUP_SIZES n_GROUP_SIZES, #[]⟩)
    {t_MOST_GROUPS : Tok} (m_MOST_GROUPS : PySem.W.nsIn K mainGlobals "MOST_GROUPS" = some (some (.int 12 t_MOST_GROUPS)))
    (kl_GROUP_SIZES : PySem.W.KeysLit w.params es_GROUP_SIZES.toList) (sy_GROUP_SIZES : (d_GROUP_SIZES == sysModules) = false) (tb_GROUP_SIZES : TabOf es_GROUP_SIZES.toList tab_GROUP_SIZES) :
    ∃ fd : FuncData, (∀ (s : Shared) (v : Value), BindsTo s fd ⟨[v], []⟩ [("script", v)]) ∧ ∀ base : Heap, K.In base → base.Ns mainGlobals mg → FnOk l.prog w K mg base CX0 5 fa fd ["script"] (spLaw K) := by
  have e := hfa.symm.trans (PySem.W.mg_of X G a13)
  cases e
  have F0 := fun_mk (st := s_number_in) l0 c0 k0
  have F1 := fun_mk (st := s_forecast_pieces) l1 c1 k1
  have F2 := fun_mk (st := s_forecast_group) l2 c2 k2
  have F3 := fun_mk (st := s_least_beginning) l3 c3 k3
  have F4 := fun_mk (st := s_read_forecast) l4 c4 k4
  have F5 := fun_mk (st := s_written_forecast) l5 c5 k5
  have F6 := fun_mk (st := s_law_pool) l6 c6 k6
  have F7 := fun_mk (st := s_law_draw) l7 c7 k7
  have F8 := fun_mk (st := s_law_pick) l8 c8 k8
  have F9 := fun_mk (st := s_law_same) l9 c9 k9
  have F10 := fun_mk (st := s_law_weather) l10 c10 k10
  have F11 := fun_mk (st := s_law_groups) l11 c11 k11
  have F12 := fun_mk (st := s_law_text) l12 c12 k12
  have F13 := fun_mk (st := s_law) l13 c13 k13
  let t : T K mg w := {
    a_number_in := f0,
    d_number_in := _,
    F_number_in := F0,
    g_number_in := PySem.W.mg_of X G a0,
    b_number_in := F0.binds (ps := ["word"]) (fun _ _ _ _ _ _ us hl => match us, hl with | [_], _ => rfl),
    a_forecast_pieces := f1,
    d_forecast_pieces := _,
    F_forecast_pieces := F1,
    g_forecast_pieces := PySem.W.mg_of X G a1,
    b_forecast_pieces := F1.binds (ps := ["text"]) (fun _ _ _ _ _ _ us hl => match us, hl with | [_], _ => rfl),
    a_forecast_group := f2,
    d_forecast_group := _,
    F_forecast_group := F2,
    g_forecast_group := PySem.W.mg_of X G a2,
    b_forecast_group := F2.binds (ps := ["pieces"]) (fun _ _ _ _ _ _ us hl => match us, hl with | [_], _ => rfl),
    a_least_beginning := f3,
    d_least_beginning := _,
    F_least_beginning := F3,
    g_least_beginning := PySem.W.mg_of X G a3,
    b_least_beginning := F3.binds (ps := ["group", "least"]) (fun _ _ _ _ _ _ us hl => match us, hl with | [_, _], _ => rfl),
    a_read_forecast := f4,
    d_read_forecast := _,
    F_read_forecast := F4,
    g_read_forecast := PySem.W.mg_of X G a4,
    b_read_forecast := F4.binds (ps := ["text"]) (fun _ _ _ _ _ _ us hl => match us, hl with | [_], _ => rfl),
    a_written_forecast := f5,
    d_written_forecast := _,
    F_written_forecast := F5,
    g_written_forecast := PySem.W.mg_of X G a5,
    b_written_forecast := F5.binds (ps := ["groups"]) (fun _ _ _ _ _ _ us hl => match us, hl with | [_], _ => rfl),
    a_law_pool := f6,
    d_law_pool := _,
    F_law_pool := F6,
    g_law_pool := PySem.W.mg_of X G a6,
    b_law_pool := F6.binds (ps := ["script"]) (fun _ _ _ _ _ _ us hl => match us, hl with | [_], _ => rfl),
    a_law_draw := f7,
    d_law_draw := _,
    F_law_draw := F7,
    g_law_draw := PySem.W.mg_of X G a7,
    b_law_draw := F7.binds (ps := ["pool", "many"]) (fun _ _ _ _ _ _ us hl => match us, hl with | [_, _], _ => rfl),
    a_law_pick := f8,
    d_law_pick := _,
    F_law_pick := F8,
    g_law_pick := PySem.W.mg_of X G a8,
    b_law_pick := F8.binds (ps := ["pool", "things"]) (fun _ _ _ _ _ _ us hl => match us, hl with | [_, _], _ => rfl),
    a_law_same := f9,
    d_law_same := _,
    F_law_same := F9,
    g_law_same := PySem.W.mg_of X G a9,
    b_law_same := F9.binds (ps := ["told", "due"]) (fun _ _ _ _ _ _ us hl => match us, hl with | [_, _], _ => rfl),
    a_law_weather := f10,
    d_law_weather := _,
    F_law_weather := F10,
    g_law_weather := PySem.W.mg_of X G a10,
    b_law_weather := F10.binds (ps := ["pool"]) (fun _ _ _ _ _ _ us hl => match us, hl with | [_], _ => rfl),
    a_law_groups := f11,
    d_law_groups := _,
    F_law_groups := F11,
    g_law_groups := PySem.W.mg_of X G a11,
    b_law_groups := F11.binds (ps := ["pool", "many", "last"]) (fun _ _ _ _ _ _ us hl => match us, hl with | [_, _, _], _ => rfl),
    a_law_text := f12,
    d_law_text := _,
    F_law_text := F12,
    g_law_text := PySem.W.mg_of X G a12,
    b_law_text := F12.binds (ps := ["groups"]) (fun _ _ _ _ _ _ us hl => match us, hl with | [_], _ => rfl),
    a_law := fa,
    d_law := _,
    F_law := F13,
    g_law := PySem.W.mg_of X G a13,
    b_law := F13.binds (ps := ["script"]) (fun _ _ _ _ _ _ us hl => match us, hl with | [_], _ => rfl),
    k_written_forecast := (fun s ws hl => match ws, hl with | [_], _ => .of_eq rfl),
    z_abs := PySem.W.mg_none_of X G z_abs,
    z_bool := PySem.W.mg_none_of X G z_bool,
    z_enumerate := PySem.W.mg_none_of X G z_enumerate,
    z_int := PySem.W.mg_none_of X G z_int,
    z_isinstance := PySem.W.mg_none_of X G z_isinstance,
    z_len := PySem.W.mg_none_of X G z_len,
    z_list := PySem.W.mg_none_of X G z_list,
    z_max := PySem.W.mg_none_of X G z_max,
    z_range := PySem.W.mg_none_of X G z_range,
    z_str := PySem.W.mg_none_of X G z_str,
    z_tuple := PySem.W.mg_none_of X G z_tuple,
    m_GROUP_SIZES := ⟨_, _, _, PySem.W.mg_of X G m_GROUP_SIZES, lk_GROUP_SIZES, kl_GROUP_SIZES, sy_GROUP_SIZES, tb_GROUP_SIZES⟩,
    m_MOST_GROUPS := ⟨_, PySem.W.mg_of X G m_MOST_GROUPS⟩ }
  exact ⟨t.d_law, fun s v => .of_eq rfl, fun base _ _ => law_ok (ok_law (P := l.prog) (base := base) t) law_true⟩
end L71
open PySem PySem.W PyProof.Rows
set_option maxHeartbeats 0 in
theorem PySem.Challenge.cw_enoughaloft_k71_forecasts_written_holds : PySem.Challenge.rw_enoughaloft_k71_forecasts_written.Holds := by
  w_on; o_law; k_head; (case hw => w_witness2)
  k_fill
  refine L2.walk_of (l := PySem.Challenge.rw_enoughaloft_k71_forecasts_written) (n := 63) (k := 5) (x := "script") (CX := fun _ => L2.CX0) (sp := fun w => PF.spLaw _) rfl (by decide) rfl ⟨rfl, by decide, by decide⟩ (fun w h Y => PySem.W.kIn_of Y) ?F (fun _ _ a ns hl ho hS => ⟨a, ns, rfl, hS, ho, hl, fun _ => rfl⟩) (fun _ _ _ _ _ h => h)
  case F =>
    intro w mg fa h KX G hmg
    refine' L71.all_mk KX G hmg ?a0 ?l0 ?c0 ?k0 ?a1 ?l1 ?c1 ?k1 ?a2 ?l2 ?c2 ?k2 ?a3 ?l3 ?c3 ?k3 ?a4 ?l4 ?c4 ?k4 ?a5 ?l5 ?c5 ?k5 ?a6 ?l6 ?c6 ?k6 ?a7 ?l7 ?c7 ?k7 ?a8 ?l8 ?c8 ?k8 ?a9 ?l9 ?c9 ?k9 ?a10 ?l10 ?c10 ?k10 ?a11 ?l11 ?c11 ?k11 ?a12 ?l12 ?c12 ?k12 ?a13 ?l13 ?c13 ?k13 ?z_abs ?z_bool ?z_enumerate ?z_int ?z_isinstance ?z_len ?z_list ?z_max ?z_range ?z_str ?z_tuple ?m_GROUP_SIZES ?lk_GROUP_SIZES ?m_MOST_GROUPS ?kl_GROUP_SIZES ?sy_GROUP_SIZES ?tb_GROUP_SIZES
    (case a0 => k_is)
    (case l0 => k_is)
    (case c0 => k_is)
    (case k0 => k_is)
    (case a1 => k_is)
    (case l1 => k_is)
    (case c1 => k_is)
    (case k1 => k_is)
    (case a2 => k_is)
    (case l2 => k_is)
    (case c2 => k_is)
    (case k2 => k_is)
    (case a3 => k_is)
    (case l3 => k_is)
    (case c3 => k_is)
    (case k3 => k_is)
    (case a4 => k_is)
    (case l4 => k_is)
    (case c4 => k_is)
    (case k4 => k_is)
    (case a5 => k_is)
    (case l5 => k_is)
    (case c5 => k_is)
    (case k5 => k_is)
    (case a6 => k_is)
    (case l6 => k_is)
    (case c6 => k_is)
    (case k6 => k_is)
    (case a7 => k_is)
    (case l7 => k_is)
    (case c7 => k_is)
    (case k7 => k_is)
    (case a8 => k_is)
    (case l8 => k_is)
    (case c8 => k_is)
    (case k8 => k_is)
    (case a9 => k_is)
    (case l9 => k_is)
    (case c9 => k_is)
    (case k9 => k_is)
    (case a10 => k_is)
    (case l10 => k_is)
    (case c10 => k_is)
    (case k10 => k_is)
    (case a11 => k_is)
    (case l11 => k_is)
    (case c11 => k_is)
    (case k11 => k_is)
    (case a12 => k_is)
    (case l12 => k_is)
    (case c12 => k_is)
    (case k12 => k_is)
    (case a13 => k_is)
    (case l13 => k_is)
    (case c13 => k_is)
    (case k13 => k_is)
    (case z_abs => k_is)
    (case z_bool => k_is)
    (case z_enumerate => k_is)
    (case z_int => k_is)
    (case z_isinstance => k_is)
    (case z_len => k_is)
    (case z_list => k_is)
    (case z_max => k_is)
    (case z_range => k_is)
    (case z_str => k_is)
    (case z_tuple => k_is)
    (case m_GROUP_SIZES => k_is)
    (case lk_GROUP_SIZES => k_is)
    (case m_MOST_GROUPS => k_is)
    (case kl_GROUP_SIZES => repeat (first | exact trivial | refine ⟨⟨_, _, rfl, rfl⟩, ?_⟩))
    (case sy_GROUP_SIZES => first | rfl | decide)
    (case tb_GROUP_SIZES => repeat (first | rfl | refine ⟨_, _, _, _, _, rfl, rfl, rfl, ?_⟩))

